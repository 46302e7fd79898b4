import PyProof.Rows.All
import Wide.All
import OpenK.AllK
import Wide.FinOn
import HandS.ForMost
import HandS.SortInts
import HandS.TupAny
import HandS.TupMul
import HandS.Rev
import HandS.Zip
import HandS.Conv
import HandS.IsInst
import HandS.Exc
import HandS.ExcOwn
import HandS.CallSlots
import HandS.WordsExc
import KE.GoesMore
import HandS.Iter
import HandS.Walk
import HandS.RevTup
import HandS.Strs
import PyProof.ListNew
import HandS.SetFor
import HandS.Words
import HandS.Defaults
import KE.KStateDown
import HandS.Ends
import HandS.Head0
import HandS.Head1
import HandS.Head2
import HandS.HeadEnd
import HandS.HeadHook1
import HandS.HeadHook2
import PySem.Challenge.RW_everycopy_k80_whole_marks_are_values
import Lean
section S_Mini
set_option Elab.async false
set_option linter.all false
/-! Mini: a small syntax tree and a functional evaluator on data. -/
namespace Mi
open PySem (Str)

/-- data: a tuple is a tree; lst: a list that nobody changes; new: a list just made; ref: a changeable cell; scr: the script -/
inductive W where
  | non | bl (b : Bool) | int (i : Int) | str (s : Str)
  | tup (xs : List W) | lst (xs : List W) | new (xs : List W) | ref (n : Nat) | scr (xs : List W)
  deriving Inhabited

/-- what a cell holds -/
inductive Ob where
  | lst (xs : List W)
  | ins (c : Nat) (fs : List (Str × W))
  deriving Inhabited

/-- an exception: its class, its fields -/
structure Xn where
  cls : Nat
  fs : List (Str × W)

inductive R (α : Type) where
  | ok (a : α) (cs : List Ob)
  | exn (x : Xn) (cs : List Ob)
  | bad

def R.bind {α β : Type} : R α → (α → List Ob → R β) → R β
  | .ok a cs, f => f a cs
  | .exn x cs, _ => .exn x cs
  | .bad, _ => .bad

/-- without exceptions -/
def R.noX {α : Type} : R α → R α
  | .ok a cs => .ok a cs
  | _ => .bad

def ofO {α : Type} : Option α → List Ob → R α
  | some a, cs => .ok a cs
  | none, _ => .bad

/-! ### the tree -/
inductive Bop where
  | add | sub | mul | fdiv | mod | pow | shl | shr | band | bor | bxor
  deriving DecidableEq
inductive Cop where
  | eq | ne | lt | le | gt | ge | isin | notin | isN | notN
  deriving DecidableEq
/-- built-in functions of values -/
inductive Blt where
  | len | abs | int | max2 | min2 | max1 | min1 | sum | any | all | sorted | list | tuple | lenSet | sortSet
  deriving DecidableEq
/-- methods of lists -/
inductive Mth where
  | append | pop | popAt | extend
  deriving DecidableEq
/-- what isinstance asks -/
inductive Ty where
  | int | bool | str | list | tuple
  deriving DecidableEq
inductive Tg where
  | nm (i : Nat)
  | tp (is : List Nat)

mutual
inductive Ex where
  | var (i : Nat)
  | non | bl (b : Bool) | int (i : Int) | str (s : Str)
  | glob (x : Str)
  | bin (op : Bop) (a b : Ex)
  | neg (a : Ex)
  | not (a : Ex)
  | and (a b : Ex) | or (a b : Ex)
  | cmp (op : Cop) (a b : Ex)
  | chain (op op' : Cop) (a b c : Ex)
  | ifx (c a b : Ex)
  | callP (f : Nat) (args : Exs)
  | callH (f : Nat) (args : Exs)
  | callPK (f : Nat) (args : Exs) (perm : List Nat)
  | blt (b : Blt) (args : Exs)
  | listI (a b : Ex) | listJ (a : Ex) | listR (a : Ex) | sortS (a : Ex)
  | meth (m : Mth) (o : Ex) (args : Exs)
  | isi (a : Ex) (t : Ty)
  | sub (a i : Ex)
  | slice (a : Ex) (lo hi : OEx)
  | list (xs : Exs)
  | tuple (xs : Exs)
  | comp (elt : Ex) (t : Tg) (it : It) (cond : OEx) (own : List Nat)
  | cel (e : Ex)
inductive Exs where
  | nil | cons (e : Ex) (es : Exs)
inductive OEx where
  | none | some (e : Ex)
inductive It where
  | ex (e : Ex)
  | range (a : Ex)
  | range2 (a b : Ex)
  | enum (e : Ex)
  | zip (a b : Ex)
  | rev (e : Ex)
end

mutual
inductive S where
  | set (i : Nat) (e : Ex)
  | setC (i : Nat) (e : Ex)
  | setT (t : Tg) (e : Ex)
  | par (i j : Nat) (a b : Ex)
  | setI (o i e : Ex)
  | ex (e : Ex)
  | ret (e : Ex)
  | retN
  | ife (c : Ex) (t e : Ss)
  | for (t : Tg) (it : It) (b : Ss)
  | while (c : Ex) (b : Ss)
  | brk | cnt | pass
  | fail
inductive Ss where
  | nil | cons (s : S) (ss : Ss)
end

/-! ### values -/
def lim : Nat := 100000
def fz : W → W
  | .new xs => .lst xs
  | w => w
def isNew : W → Bool
  | .new _ => true
  | _ => false
def cellL (cs : List Ob) (n : Nat) : Option (List W) :=
  match cs[n]? with
  | some (.lst xs) => some xs
  | _ => none
/-- the items of a list or tuple -/
def items (cs : List Ob) : W → Option (List W)
  | .tup xs => some xs
  | .lst xs => some xs
  | .new xs => some xs
  | .scr xs => some xs
  | .ref n => cellL cs n
  | _ => none
/-- the items of a list -/
def itemsL (cs : List Ob) : W → Option (List W)
  | .lst xs => some xs
  | .new xs => some xs
  | .ref n => cellL cs n
  | _ => none
def mkNew (xs : List W) (cs : List Ob) : R W := if xs.length ≤ lim then .ok (.new xs) cs else .bad
def mkTup (xs : List W) (cs : List Ob) : R W := if xs.length ≤ lim then .ok (.tup xs) cs else .bad


def derefL (f : W → Option W) : List W → Option (List W)
  | [] => some []
  | w :: ws => (match f w, derefL f ws with
    | some v, some vs => some (v :: vs)
    | _, _ => none)
/-- without cells and fresh lists: what may leave its heap (k: how deep) -/
def deref (cs : List Ob) : Nat → W → Option W
  | 0, _ => none
  | k + 1, w => (match w with
    | .ref n => (match cellL cs n with
      | some xs => (derefL (deref cs k) xs).map .lst
      | none => none)
    | .tup xs => (derefL (deref cs k) xs).map .tup
    | .lst xs => (derefL (deref cs k) xs).map .lst
    | .new xs => (derefL (deref cs k) xs).map .lst
    | .scr xs => (derefL (deref cs k) xs).map .scr
    | w => some w)
/-- data without any list or cell within -/
def flat : Nat → W → Bool
  | 0, _ => false
  | k + 1, w => (match w with
    | .ref _ => false
    | .tup xs => xs.all (flat k)
    | .lst _ => false
    | .new _ => false
    | .scr _ => false
    | _ => true)
def deep : Nat := 6
/-- what a pure def hands back -/
def handed (cs : List Ob) : W → Option W
  | .ref n => (match cellL cs n with
    | some xs => if xs.all (flat deep) then some (.new xs) else none
    | none => none)
  | .new xs => if xs.all (flat deep) then some (.new xs) else none
  | w => if flat deep w then some w else none

/-! ### operators -/
def big : Int := 18446744073709551616
def mulOk (i j : Int) : Bool := (decide (-big < i) && decide (i < big)) || (decide (-big < j) && decide (j < big))
def bopI : Bop → Int → Int → Option Int
  | .add, i, j => some (i + j)
  | .sub, i, j => some (i - j)
  | .mul, i, j => if mulOk i j then some (i * j) else none
  | .fdiv, i, j => if 0 < j ∧ j < 1073741824 then some (i / j) else none
  | .mod, i, j => if 0 < j then some (i % j) else none
  | .pow, i, j => if 0 ≤ j ∧ j ≤ 1000 ∧ i.natAbs < 1000 then some (i ^ j.toNat) else none
  | .shl, i, j => if 0 ≤ j ∧ j ≤ 1000 ∧ i.natAbs < 1000 then some (i * 2 ^ j.toNat) else none
  | .shr, i, j => if 0 ≤ j then some (i / 2 ^ j.toNat) else none
  | _, _, _ => none
def bop (op : Bop) (a b : W) (cs : List Ob) : R W :=
  match op, a, b with
  | op, .int i, .int j => (match bopI op i j with
    | some k => .ok (.int k) cs
    | none => .bad)
  | .add, .tup xs, .tup ys => mkTup (xs ++ ys) cs
  | .add, a, b => (match itemsL cs a, itemsL cs b with
    | some xs, some ys => mkNew (xs ++ ys) cs
    | _, _ => .bad)
  | .mul, .tup xs, .int j => if 2 ≤ j ∧ j ≤ 1000 ∧ xs.length ≤ 1000 ∧ xs ≠ [] then mkTup (List.replicate j.toNat xs).flatten cs else .bad
  | .mul, a, .int j => (match itemsL cs a with
    | some xs => if j < 1000000 ∧ -1000000 < j then mkNew (List.replicate j.toNat xs).flatten cs else .bad
    | none => .bad)
  | _, _, _ => .bad

mutual
/-- == of data -/
def eqW : W → W → Bool
  | .non, .non => true
  | .bl a, .bl b => a == b
  | .bl a, .int j => (if a then 1 else 0) == j
  | .int i, .bl b => i == (if b then 1 else 0)
  | .int i, .int j => i == j
  | .str x, .str y => x == y
  | .tup xs, .tup ys => eqWs xs ys
  | .lst xs, .lst ys => eqWs xs ys
  | _, _ => false
def eqWs : List W → List W → Bool
  | [], [] => true
  | x :: xs, y :: ys => eqW x y && eqWs xs ys
  | _, _ => false
end
def intsW : List W → Option (List Int)
  | [] => some []
  | .int i :: ws => (intsW ws).map (i :: ·)
  | _ => none
/-- < of rows of numbers -/
def lexI : List Int → List Int → Bool
  | [], [] => false
  | [], _ :: _ => true
  | _ :: _, [] => false
  | a :: as, b :: bs => if a = b then lexI as bs else decide (a < b)
def isFlatW : W → Bool
  | .non => true
  | .bl _ => true
  | .int _ => true
  | .str _ => true
  | _ => false
/-- texts of true signs alone -/
def okW : Nat → W → Bool
  | 0, _ => false
  | k + 1, w => (match w with
    | .str s => s.cps.all (· < 1114112)
    | .tup xs => xs.all (okW k)
    | .lst xs => xs.all (okW k)
    | .new _ => false
    | .ref _ => false
    | .scr _ => false
    | _ => true)
def cop (op : Cop) (a b : W) (cs : List Ob) : Option Bool :=
  match op with
  | .eq => (match deref cs deep a, deref cs deep b with
    | some x, some y => if okW deep x && okW deep y then some (eqW x y) else none
    | _, _ => none)
  | .ne => (match deref cs deep a, deref cs deep b with
    | some x, some y => if okW deep x && okW deep y then some (!eqW x y) else none
    | _, _ => none)
  | .lt => (match a, b with
    | .int i, .int j => some (decide (i < j))
    | .tup xs, .tup ys => (match intsW xs, intsW ys with
      | some ns, some ms => some (lexI ns ms)
      | _, _ => none)
    | _, _ => none)
  | .le => (match a, b with
    | .int i, .int j => some (decide (i ≤ j))
    | _, _ => none)
  | .gt => (match a, b with
    | .int i, .int j => some (decide (j < i))
    | _, _ => none)
  | .ge => (match a, b with
    | .int i, .int j => some (decide (j ≤ i))
    | _, _ => none)
  | .isin => (match items cs b with
    | some ys => if isFlatW a && ys.all isFlatW then some (ys.any fun y => eqW y a) else none
    | none => none)
  | .notin => (match items cs b with
    | some ys => if isFlatW a && ys.all isFlatW then some (!(ys.any fun y => eqW y a)) else none
    | none => none)
  | .isN => (match b with
    | .non => some (match a with
      | .non => true
      | _ => false)
    | _ => none)
  | .notN => (match b with
    | .non => some (match a with
      | .non => false
      | _ => true)
    | _ => none)

/-! ### places -/
def place (n : Nat) (i : Int) : Option Nat := if 0 ≤ i then (if i < n then some i.toNat else none) else if -(n : Int) ≤ i then some (i + n).toNat else none
def at? (xs : List W) (i : Int) : Option W := (place xs.length i).bind fun j => xs[j]?
/-- a slice's bound among n -/
def bound (n d : Nat) : Option Int → Nat
  | none => d
  | some v => if v < 0 then (v + (n : Int)).toNat else min v.toNat n
def cut (xs : List W) (lo hi : Option Int) : List W := (xs.drop (bound xs.length 0 lo)).take (bound xs.length xs.length hi - bound xs.length 0 lo)
def subW (a i : W) (cs : List Ob) : Option W :=
  match i with
  | .int k => (match items cs a with
    | some xs => at? xs k
    | none => none)
  | _ => none
def sliceW (a : W) (lo hi : Option Int) (cs : List Ob) : R W :=
  match a with
  | .tup xs => mkTup (cut xs lo hi) cs
  | .scr xs => mkNew (cut xs lo hi) cs
  | a => (match itemsL cs a with
    | some xs => mkNew (cut xs lo hi) cs
    | none => .bad)

/-! ### built-in functions -/
def blsW : List W → Option (List Bool)
  | [] => some []
  | .bl b :: ws => (blsW ws).map (b :: ·)
  | _ => none
def insI (x : Int) : List Int → List Int
  | [] => [x]
  | y :: ys => if x ≤ y then x :: y :: ys else y :: insI x ys
def sortI : List Int → List Int
  | [] => []
  | x :: xs => insI x (sortI xs)
/-- each once -/
def onceI : List Int → List Int
  | [] => []
  | x :: xs => if xs.contains x then onceI xs else x :: onceI xs
def maxI : Int → List Int → Int
  | m, [] => m
  | m, x :: xs => maxI (if x > m then x else m) xs
def minI : Int → List Int → Int
  | m, [] => m
  | m, x :: xs => minI (if x < m then x else m) xs
def blt (b : Blt) (args : List W) (cs : List Ob) : R W :=
  match b, args with
  | .len, [.str s] => .bad
  | .len, [a] => (match items cs a with
    | some xs => .ok (.int xs.length) cs
    | none => .bad)
  | .abs, [.int i] => .ok (.int (if i < 0 then -i else i)) cs
  | .int, [.int i] => .ok (.int i) cs
  | .int, [.bl b] => .ok (.int (if b then 1 else 0)) cs
  | .max2, [.int i, .int j] => .ok (.int (if j > i then j else i)) cs
  | .min2, [.int i, .int j] => .ok (.int (if j < i then j else i)) cs
  | .max1, [a] => (match (itemsL cs a).bind intsW with
    | some (x :: xs) => .ok (.int (maxI x xs)) cs
    | _ => .bad)
  | .min1, [a] => (match (itemsL cs a).bind intsW with
    | some (x :: xs) => .ok (.int (minI x xs)) cs
    | _ => .bad)
  | .sum, [a] => (match (itemsL cs a).bind intsW with
    | some xs => .ok (.int xs.sum) cs
    | none => .bad)
  | .any, [a] => (match (itemsL cs a).bind blsW with
    | some xs => .ok (.bl (xs.any id)) cs
    | none => .bad)
  | .all, [a] => (match (itemsL cs a).bind blsW with
    | some xs => .ok (.bl (xs.all id)) cs
    | none => .bad)
  | .sorted, [a] => (match (items cs a).bind intsW with
    | some xs => mkNew ((sortI xs).map .int) cs
    | none => .bad)
  | .sortSet, [a] => (match (itemsL cs a).bind intsW with
    | some xs => mkNew ((sortI (onceI xs)).map .int) cs
    | none => .bad)
  | .list, [a] => (match items cs a with
    | some xs => mkNew xs cs
    | none => .bad)
  | .tuple, [a] => (match items cs a with
    | some xs => mkTup xs cs
    | none => .bad)
  | _, _ => .bad
def isiW (t : Ty) (a : W) (cs : List Ob) : Option Bool :=
  match t, a with
  | .int, .int _ => some true
  | .int, .bl _ => some true
  | .int, .non => some false
  | .int, .str _ => some false
  | .int, .tup _ => some false
  | .bool, .bl _ => some true
  | .bool, .int _ => some false
  | .bool, .non => some false
  | .bool, .str _ => some false
  | .bool, .tup _ => some false
  | .str, .str _ => some true
  | .str, .int _ => some false
  | .str, .bl _ => some false
  | .str, .non => some false
  | .str, .tup _ => some false
  | .tuple, .tup _ => some true
  | .tuple, .int _ => some false
  | .tuple, .bl _ => some false
  | .tuple, .non => some false
  | .tuple, .str _ => some false
  | .list, .tup _ => some false
  | .list, .int _ => some false
  | .list, .bl _ => some false
  | .list, .non => some false
  | .list, .str _ => some false
  | t, a => (match itemsL cs a with
    | some _ => some (decide (t = .list))
    | none => none)
def isCell (cs : List Ob) : W → Bool
  | .ref n => (cellL cs n).isSome
  | _ => false
/-- a method of a list that is a cell -/
def meth (m : Mth) (o : W) (args : List W) (cs : List Ob) : R W :=
  match o with
  | .ref n => (match cellL cs n with
    | some xs => (match m, args with
      | .append, [w] => if xs.length < lim then .ok .non (cs.set n (.lst (xs ++ [w]))) else .bad
      | .pop, [] => (match xs[xs.length - 1]? with
        | some y => .ok y (cs.set n (.lst xs.dropLast))
        | none => .bad)
      | .popAt, [.int i] => (match place xs.length i with
        | some k => (match xs[k]? with
          | some y => .ok y (cs.set n (.lst (xs.eraseIdx k)))
          | none => .bad)
        | none => .bad)
      | .extend, [a] => (match itemsL cs a with
        | some ys => if xs.length + ys.length ≤ lim then .ok .non (cs.set n (.lst (xs ++ ys))) else .bad
        | none => .bad)
      | _, _ => .bad)
    | none => .bad)
  | _ => .bad
/-- o[i] = v -/
def setIdx (o i v : W) (cs : List Ob) : Option (List Ob) :=
  match o, i with
  | .ref n, .int k => (match cellL cs n with
    | some xs => (match place xs.length k with
      | some j => some (cs.set n (.lst (xs.set j v)))
      | none => none)
    | none => none)
  | _, _ => none

/-! ### loops -/
/-- what is walked: items that stand still, or a cell -/
inductive Src where
  | im (xs : List W)
  | ce (n : Nat) (len : Nat)
abbrev Env := List (Option W)
def wipe (ρ : Env) : List Nat → Env
  | [] => ρ
  | i :: is => (wipe ρ is).set i none
def putS : List Nat → List W → Env → Option Env
  | [], [], ρ => some ρ
  | i :: is, w :: ws, ρ => putS is ws (ρ.set i (some w))
  | _, _, _ => none
def put (t : Tg) (w : W) (ρ : Env) : Option Env :=
  match t with
  | .nm i => some (ρ.set i (some w))
  | .tp is => (match w with
    | .tup ws => putS is ws ρ
    | _ => none)
/-- behind a statement -/
inductive Fl where
  | nx (ρ : Env) | ret (w : W) | bk (ρ : Env) | ct (ρ : Env)
def compGo (f : W → List Ob → R (Option W)) : List W → List Ob → R (List W)
  | [], cs => .ok [] cs
  | x :: xs, cs => (f x cs).bind fun o cs => (compGo f xs cs).bind fun ys cs => .ok (match o with
    | some y => y :: ys
    | none => ys) cs
/-- over a cell: item by item, as it then is; i: the place, k: how many are left -/
def compCe (f : W → List Ob → R (Option W)) (n : Nat) : Nat → Nat → List Ob → R (List W)
  | i, 0, cs => (match cellL cs n with
    | some xs => if xs.length ≤ i then .ok [] cs else .bad
    | none => .bad)
  | i, k + 1, cs => (match cellL cs n with
    | some xs => (match xs[i]? with
      | some x => (f x cs).bind fun o cs => (compCe f n (i + 1) k cs).bind fun ys cs => .ok (match o with
        | some y => y :: ys
        | none => ys) cs
      | none => .bad)
    | none => .bad)
def compS (f : W → List Ob → R (Option W)) : Src → List Ob → R (List W)
  | .im xs, cs => compGo f xs cs
  | .ce n k, cs => compCe f n 0 k cs
def forGo (g : W → Env → List Ob → R Fl) : List W → Env → List Ob → R Fl
  | [], ρ, cs => .ok (.nx ρ) cs
  | x :: xs, ρ, cs => (g x ρ cs).bind fun fl cs => (match fl with
    | .nx ρ' => forGo g xs ρ' cs
    | .ct ρ' => forGo g xs ρ' cs
    | .bk ρ' => .ok (.nx ρ') cs
    | .ret w => .ok (.ret w) cs)
def forCe (g : W → Env → List Ob → R Fl) (n : Nat) : Nat → Nat → Env → List Ob → R Fl
  | i, 0, ρ, cs => (match cellL cs n with
    | some xs => if xs.length ≤ i then .ok (.nx ρ) cs else .bad
    | none => .bad)
  | i, k + 1, ρ, cs => (match cellL cs n with
    | some xs => (match xs[i]? with
      | some x => (g x ρ cs).bind fun fl cs => (match fl with
        | .nx ρ' => forCe g n (i + 1) k ρ' cs
        | .ct ρ' => forCe g n (i + 1) k ρ' cs
        | .bk ρ' => .ok (.nx ρ') cs
        | .ret w => .ok (.ret w) cs)
      | none => .bad)
    | none => .bad)
def forS (g : W → Env → List Ob → R Fl) : Src → Env → List Ob → R Fl
  | .im xs, ρ, cs => forGo g xs ρ cs
  | .ce n k, ρ, cs => forCe g n 0 k ρ cs
def whGo (c : Env → List Ob → R Bool) (g : Env → List Ob → R Fl) : Nat → Env → List Ob → R Fl
  | 0, _, _ => .bad
  | k + 1, ρ, cs => (c ρ cs).bind fun b cs => if b then (g ρ cs).bind fun fl cs => (match fl with
    | .nx ρ' => whGo c g k ρ' cs
    | .ct ρ' => whGo c g k ρ' cs
    | .bk ρ' => .ok (.nx ρ') cs
    | .ret w => .ok (.ret w) cs) else .ok (.nx ρ) cs
def srcOf (cs : List Ob) : W → Option Src
  | .tup xs => some (.im xs)
  | .lst xs => some (.im xs)
  | .new xs => some (.im xs)
  | .scr xs => some (.im xs)
  | .ref n => (cellL cs n).map fun xs => .ce n xs.length
  | _ => none
def rangeI (lo : Int) (n : Nat) : List W := (List.range n).map fun (i : Nat) => .int (lo + (i : Int))
def okR (i : Int) : Bool := decide (-1000000 < i) && decide (i < 1000000)
def rangeW (a b : W) : Option (List W) :=
  match a, b with
  | .int a, .int b => if okR a && okR b then some (rangeI a (b - a).toNat) else none
  | _, _ => none
/-- the items of a list (false) or a tuple (true) that stand still -/
def stillW : W → Option (Bool × List W)
  | .tup xs => some (true, xs)
  | .lst xs => some (false, xs)
  | .new xs => some (false, xs)
  | .scr xs => some (false, xs)
  | _ => none
def enumW (i : Nat) : List W → List W
  | [] => []
  | x :: xs => .tup [.int (i : Int), x] :: enumW (i + 1) xs
def zipW : List W → List W → List W
  | x :: xs, y :: ys => .tup [x, y] :: zipW xs ys
  | _, _ => []
def truth (cs : List Ob) : W → Option Bool
  | .bl b => some b
  | _ => none

/-- how defs answer: by their number, arguments, the cells; atoms and tuples that stand at the top; how long a while may run -/
structure Orc where
  call : Nat → List W → List Ob → R W
  glob : Str → Option W
  fuel : Nat

/-- the fields of an exception that leaves a pure def -/
def flatX (x : Xn) : Bool := x.fs.all fun p => flat deep p.2
def callP (O : Orc) (f : Nat) (ws : List W) (cs : List Ob) : R W :=
  match derefL (deref cs deep) ws with
  | some vs => (match O.call f vs [] with
    | .ok w c1 => (match handed c1 w with
      | some v => .ok v cs
      | none => .bad)
    | .exn x _ => if flatX x then .exn x cs else .bad
    | .bad => .bad)
  | none => .bad
def permute {α : Type} (ws : List α) (pm : List Nat) : List α := pm.filterMap fun i => ws[i]?

mutual
def ev (O : Orc) (ρ : Env) : Ex → List Ob → R W
  | .var i, cs => (match ρ[i]? with
    | some (some w) => .ok w cs
    | _ => .bad)
  | .non, cs => .ok .non cs
  | .bl b, cs => .ok (.bl b) cs
  | .int i, cs => .ok (.int i) cs
  | .str s, cs => .ok (.str s) cs
  | .glob x, cs => ofO (O.glob x) cs
  | .bin op a b, cs => (ev O ρ a cs).bind fun x cs => (ev O ρ b cs).bind fun y cs => bop op x y cs
  | .neg a, cs => (ev O ρ a cs).bind fun x cs => (match x with
    | .int i => .ok (.int (-i)) cs
    | _ => .bad)
  | .not a, cs => (ev O ρ a cs).bind fun x cs => (match truth cs x with
    | some b => .ok (.bl (!b)) cs
    | none => .bad)
  | .and a b, cs => (ev O ρ a cs).bind fun x cs => (match x with
    | .bl true => ev O ρ b cs
    | .bl false => .ok (.bl false) cs
    | _ => .bad)
  | .or a b, cs => (ev O ρ a cs).bind fun x cs => (match x with
    | .bl true => .ok (.bl true) cs
    | .bl false => ev O ρ b cs
    | _ => .bad)
  | .cmp op a b, cs => (ev O ρ a cs).bind fun x cs => (ev O ρ b cs).bind fun y cs => (match cop op x y cs with
    | some k => .ok (.bl k) cs
    | none => .bad)
  | .chain o1 o2 a b c, cs => (ev O ρ a cs).bind fun x cs => (ev O ρ b cs).bind fun y cs => (match cop o1 x y cs with
    | some true => (ev O ρ c cs).bind fun z cs => (match cop o2 y z cs with
      | some k => .ok (.bl k) cs
      | none => .bad)
    | some false => .ok (.bl false) cs
    | none => .bad)
  | .ifx c a b, cs => (ev O ρ c cs).bind fun x cs => (match truth cs x with
    | some true => ev O ρ a cs
    | some false => ev O ρ b cs
    | none => .bad)
  | .callP f es, cs => (evs O ρ es cs).bind fun ws cs => callP O f ws cs
  | .callPK f es pm, cs => (evs O ρ es cs).bind fun ws cs => callP O f (permute ws pm) cs
  | .callH f es, cs => (evs O ρ es cs).bind fun ws cs => O.call f ws cs
  | .blt b es, cs => (evs O ρ es cs).bind fun ws cs => blt b ws cs
  | .listI a b, cs => (ev O ρ a cs).bind fun x cs => (ev O ρ b cs).bind fun y cs => (match rangeW x y with
    | some xs => .ok (.new xs) cs
    | none => .bad)
  | .listJ a, cs => (ev O ρ a cs).bind fun x cs => (match rangeW (.int 0) x with
    | some xs => .ok (.new xs) cs
    | none => .bad)
  | .listR a, cs => (ev O ρ a cs).bind fun x cs => (match itemsL cs x with
    | some xs => .ok (.new xs.reverse) cs
    | none => .bad)
  | .sortS a, cs => (ev O ρ a cs).bind fun x cs => (match (itemsL cs x).bind intsW with
    | some ns => if ns.length < 64 then .ok (.new ((sortI (onceI ns)).map .int)) cs else .bad
    | none => .bad)
  | .meth m o es, cs => (ev O ρ o cs).bind fun x cs => if isCell cs x then (evs O ρ es cs).bind fun ws cs => meth m x ws cs else .bad
  | .isi a t, cs => (ev O ρ a cs).bind fun x cs => (match isiW t x cs with
    | some k => .ok (.bl k) cs
    | none => .bad)
  | .sub a i, cs => (ev O ρ a cs).bind fun x cs => (ev O ρ i cs).bind fun y cs => ofO (subW x y cs) cs
  | .slice a lo hi, cs => (ev O ρ a cs).bind fun x cs => (evO O ρ lo cs).bind fun l cs => (evO O ρ hi cs).bind fun h cs => sliceW x l h cs
  | .list es, cs => (evs O ρ es cs).bind fun ws cs => mkNew ws cs
  | .tuple es, cs => (evs O ρ es cs).bind fun ws cs => mkTup ws cs
  | .comp elt t it c own, cs => (evI O ρ it cs).bind fun s cs =>
    (compS (fun x cs => (match put t (fz x) (wipe ρ own) with
      | some ρ' => ((evC O ρ' c cs).bind fun b cs => if b then (ev O ρ' elt cs).bind fun y cs => .ok (some (fz y)) cs else .ok none cs).noX
      | none => .bad)) s cs).bind fun ys cs => mkNew ys cs
  | .cel e, cs => (ev O ρ e cs).bind fun x cs => (match x with
    | .new xs => .ok (.ref cs.length) (cs ++ [.lst xs])
    | x => .ok x cs)
def evs (O : Orc) (ρ : Env) : Exs → List Ob → R (List W)
  | .nil, cs => .ok [] cs
  | .cons e es, cs => (ev O ρ e cs).bind fun x cs => (evs O ρ es cs).bind fun xs cs => .ok (fz x :: xs) cs
def evO (O : Orc) (ρ : Env) : OEx → List Ob → R (Option Int)
  | .none, cs => .ok none cs
  | .some e, cs => (ev O ρ e cs).bind fun x cs => (match x with
    | .int i => .ok (some i) cs
    | _ => .bad)
/-- a comprehension's test -/
def evC (O : Orc) (ρ : Env) : OEx → List Ob → R Bool
  | .none, cs => .ok true cs
  | .some e, cs => (ev O ρ e cs).bind fun x cs => ofO (truth cs x) cs
def evI (O : Orc) (ρ : Env) : It → List Ob → R Src
  | .ex e, cs => (ev O ρ e cs).bind fun x cs => ofO (srcOf cs x) cs
  | .range a, cs => (ev O ρ a cs).bind fun x cs => (match rangeW (.int 0) x with
    | some xs => .ok (.im xs) cs
    | none => .bad)
  | .range2 a b, cs => (ev O ρ a cs).bind fun x cs => (ev O ρ b cs).bind fun y cs => (match rangeW x y with
    | some xs => .ok (.im xs) cs
    | none => .bad)
  | .enum e, cs => (ev O ρ e cs).bind fun x cs => (match stillW x with
    | some (_, xs) => .ok (.im (enumW 0 xs)) cs
    | none => .bad)
  | .zip a b, cs => (ev O ρ a cs).bind fun x cs => (ev O ρ b cs).bind fun y cs => (match stillW x, stillW y with
    | some (s, xs), some (t, ys) => if s = t then .ok (.im (zipW xs ys)) cs else .bad
    | _, _ => .bad)
  | .rev e, cs => (ev O ρ e cs).bind fun x cs => (match stillW x with
    | some (_, xs) => .ok (.im xs.reverse) cs
    | none => .bad)
end

/-- a test -/
def test (O : Orc) (ρ : Env) (c : Ex) (cs : List Ob) : R Bool := (ev O ρ c cs).bind fun x cs => ofO (truth cs x) cs

mutual
def run (O : Orc) : S → Env → List Ob → R Fl
  | .set i e, ρ, cs => (ev O ρ e cs).bind fun x cs => .ok (.nx (ρ.set i (some (fz x)))) cs
  | .setC i e, ρ, cs => (ev O ρ e cs).bind fun x cs => (match x with
    | .new xs => .ok (.nx (ρ.set i (some (.ref cs.length)))) (cs ++ [.lst xs])
    | x => .ok (.nx (ρ.set i (some x))) cs)
  | .setT t e, ρ, cs => (ev O ρ e cs).bind fun x cs => (match put t (fz x) ρ with
    | some ρ' => .ok (.nx ρ') cs
    | none => .bad)
  | .par i j a b, ρ, cs => (ev O ρ a cs).bind fun x cs => (ev O ρ b cs).bind fun y cs => .ok (.nx ((ρ.set i (some (fz x))).set j (some (fz y)))) cs
  | .setI o i e, ρ, cs => (ev O ρ e cs).bind fun v cs => (ev O ρ o cs).bind fun x cs => (ev O ρ i cs).bind fun y cs => (match setIdx x y (fz v) cs with
    | some cs' => .ok (.nx ρ) cs'
    | none => .bad)
  | .ex e, ρ, cs => (ev O ρ e cs).bind fun _ cs => .ok (.nx ρ) cs
  | .ret e, ρ, cs => (ev O ρ e cs).bind fun x cs => .ok (.ret x) cs
  | .retN, _, cs => .ok (.ret .non) cs
  | .ife c t e, ρ, cs => (test O ρ c cs).bind fun b cs => if b then runs O t ρ cs else runs O e ρ cs
  | .for t it b, ρ, cs => (evI O ρ it cs).bind fun s cs => forS (fun x ρ cs => (match put t (fz x) ρ with
    | some ρ' => runs O b ρ' cs
    | none => .bad)) s ρ cs
  | .while c b, ρ, cs => whGo (fun ρ cs => test O ρ c cs) (fun ρ cs => runs O b ρ cs) O.fuel ρ cs
  | .brk, ρ, cs => .ok (.bk ρ) cs
  | .cnt, ρ, cs => .ok (.ct ρ) cs
  | .pass, ρ, cs => .ok (.nx ρ) cs
  | .fail, _, _ => .bad
def runs (O : Orc) : Ss → Env → List Ob → R Fl
  | .nil, ρ, cs => .ok (.nx ρ) cs
  | .cons s ss, ρ, cs => (run O s ρ cs).bind fun fl cs => (match fl with
    | .nx ρ' => runs O ss ρ' cs
    | fl => .ok fl cs)
end

/-- a def: how many slots, its parameters first; its body -/
structure Def where
  slots : Nat
  pars : Nat
  body : Ss
def entry (d : Def) (ws : List W) : Env := ws.map some ++ List.replicate (d.slots - ws.length) none
def Def.run (d : Def) (O : Orc) (ws : List W) (cs : List Ob) : R W :=
  if ws.length = d.pars then (runs O d.body (entry d ws) cs).bind fun fl cs => (match fl with
    | .nx _ => .ok .non cs
    | .ret w => .ok w cs
    | _ => .bad) else .bad
/-- the defs, by their numbers; k: how deep calls may lie in one another -/
def calls (ds : List Def) (g : Str → Option W) (fuel : Nat) : Nat → Nat → List W → List Ob → R W
  | 0, _, _, _ => .bad
  | k + 1, f, ws, cs => (match ds[f]? with
    | some d => d.run ⟨calls ds g fuel k, g, fuel⟩ ws cs
    | none => .bad)
end Mi
end S_Mini

section S_Rel
set_option Elab.async false
set_option linter.all false
set_option maxRecDepth 100000
set_option maxHeartbeats 4000000
/-! Rel: how the evaluator's data lie in the abstract heap. -/
namespace So
open PySem PySem.Spec PyProof.Rows L2
open Mi (W Ob Xn R Orc)
abbrev ME := Mi.Env
abbrev LS := L2.St

/-- a tuple of the written part -/
def KT (K : PySem.W.Frag) (a : Addr) (vs : List V) : Prop :=
  ∃ (o : Obj) (its : Array Value) (n : Nat), K.lookup a = some o ∧ o.cls = .type "tuple" ∧ o.data = .seq its n ∧ its.size ≤ sizeLine ∧ Vals vs its.toList

/-- a list of the written part -/
def KL (K : PySem.W.Frag) (a : Addr) (vs : List V) : Prop :=
  ∃ (o : Obj) (its : Array Value) (n : Nat), K.lookup a = some o ∧ o.cls = .type "list" ∧ o.dict = none ∧ o.data = .seq its n ∧ its.size ≤ sizeLine ∧ Vals vs its.toList

mutual
/-- a value lies in the heap as the data say; m: where the cells lie; f: what is not spoken of -/
inductive Rep (K : PySem.W.Frag) (H : Hp) (m f : List Addr) : W → V → Prop
  | non : Rep K H m f .non .non
  | bl (b : Bool) : Rep K H m f (.bl b) (.bl b)
  | int (i : Int) : Rep K H m f (.int i) (.int i)
  | str (s : Str) : Rep K H m f (.str s) (.str s)
  | tup {ws : List W} {vs : List V} {a : Addr} : Rd H a (.tup vs) → a ∉ m → a ∉ f → Reps K H m f ws vs → Rep K H m f (.tup ws) (.ref a)
  | ktup {ws : List W} {vs : List V} {a : Addr} : KT K a vs → Reps K H m f ws vs → Rep K H m f (.tup ws) (.ref a)
  | lst {ws : List W} {vs : List V} {a : Addr} : H a = some (.lst vs) → a ∉ m → a ∉ f → Reps K H m f ws vs → Rep K H m f (.lst ws) (.ref a)
  | scr {ws : List W} {vs : List V} {a : Addr} : Rd H a (.lst vs) → a ∉ m → a ∉ f → Reps K H m f ws vs → Rep K H m f (.scr ws) (.ref a)
  | kscr {ws : List W} {vs : List V} {a : Addr} : KL K a vs → Reps K H m f ws vs → Rep K H m f (.scr ws) (.ref a)
  | ref {n : Nat} {a : Addr} : m[n]? = some a → Rep K H m f (.ref n) (.ref a)
inductive Reps (K : PySem.W.Frag) (H : Hp) (m f : List Addr) : List W → List V → Prop
  | nil : Reps K H m f [] []
  | cons {w : W} {ws : List W} {v : V} {vs : List V} : Rep K H m f w v → Reps K H m f ws vs → Reps K H m f (w :: ws) (v :: vs)
end

/-- what an evaluation keeps: new cells are new objects, and all but the cells stands -/
structure Keep (H H' : Hp) (m m' : List Addr) : Prop where
  ext : ∃ n, m' = m ++ n ∧ ∀ a ∈ n, H a = none
  same : ∀ a o, H a = some o → a ∉ m → H' a = some o
  dom : ∀ a, H' a = none → H a = none

theorem Keep.refl {H : Hp} {m : List Addr} : Keep H H m m := ⟨⟨[], by simp, fun _ h => nomatch h⟩, fun _ _ h _ => h, fun _ h => h⟩
theorem Keep.out {H H' : Hp} {m m' : List Addr} (k : Keep H H' m m') {a : Addr} {o : HO} (h : H a = some o) (ha : a ∉ m) : a ∉ m' := by
  obtain ⟨n, e, hn⟩ := k.ext
  rw [e]
  intro hm
  rcases List.mem_append.mp hm with h1 | h1
  · exact ha h1
  · rw [hn a h1] at h
    cases h
theorem Keep.trans {H H1 H2 : Hp} {m m1 m2 : List Addr} (k : Keep H H1 m m1) (l : Keep H1 H2 m1 m2) : Keep H H2 m m2 := by
  refine ⟨?_, fun a o h ha => l.same a o (k.same a o h ha) (k.out h ha), fun a h => k.dom a (l.dom a h)⟩
  obtain ⟨n1, e1, h1⟩ := k.ext
  obtain ⟨n2, e2, h2⟩ := l.ext
  refine ⟨n1 ++ n2, by rw [e2, e1, List.append_assoc], fun a ha => ?_⟩
  rcases List.mem_append.mp ha with z | z
  · exact h1 a z
  · exact k.dom a (h2 a z)
theorem Keep.get {H H' : Hp} {m m' : List Addr} (k : Keep H H' m m') {n : Nat} {a : Addr} (h : m[n]? = some a) : m'[n]? = some a := by
  obtain ⟨n1, e1, _⟩ := k.ext
  rw [e1, List.getElem?_append_left]
  · exact h
  · exact (List.getElem?_eq_some_iff.mp h).1
theorem Keep.rd {H H' : Hp} {m m' : List Addr} (k : Keep H H' m m') {a : Addr} {o : HO} (h : Rd H a o) (ha : a ∉ m) : Rd H' a o ∧ a ∉ m' := by
  rcases h with h | ⟨f, h⟩
  · exact ⟨Or.inl (k.same a _ h ha), k.out h ha⟩
  · exact ⟨Or.inr ⟨f, k.same a _ h ha⟩, k.out h ha⟩
/-- a new object that is no cell -/
theorem Keep.new {H : Hp} {m : List Addr} {p : Addr} {o : HO} (h : H p = none) : Keep H (upd H p o) m m := by
  refine ⟨⟨[], by simp, fun _ h => nomatch h⟩, fun a u e _ => ?_, fun a e => ?_⟩
  · rw [upd_ne (ne_of_none e h)]
    exact e
  · by_cases z : a = p
    · rw [z]
      exact h
    · rw [upd_ne z] at e
      exact e
/-- a cell is changed -/
theorem Keep.cell {H : Hp} {m : List Addr} {p : Addr} {o : HO} (h : p ∈ m) : Keep H (upd H p o) m m := by
  refine ⟨⟨[], by simp, fun _ h => nomatch h⟩, fun a u e ha => ?_, fun a e => ?_⟩
  · rw [upd_ne (fun z => ha (by rw [z]; exact h))]
    exact e
  · by_cases z : a = p
    · rw [z, upd_same] at e
      cases e
    · rw [upd_ne z] at e
      exact e

mutual
theorem Rep.mono {K : PySem.W.Frag} {H H' : Hp} {m m' f : List Addr} (k : Keep H H' m m') : ∀ {w : W} {v : V}, Rep K H m f w v → Rep K H' m' f w v
  | _, _, .non => .non
  | _, _, .bl b => .bl b
  | _, _, .int i => .int i
  | _, _, .str s => .str s
  | _, _, .tup h ha hf hs => .tup (k.rd h ha).1 (k.rd h ha).2 hf (Reps.mono k hs)
  | _, _, .ktup h hs => .ktup h (Reps.mono k hs)
  | _, _, .kscr h hs => .kscr h (Reps.mono k hs)
  | _, _, .lst h ha hf hs => .lst (k.same _ _ h ha) (k.out h ha) hf (Reps.mono k hs)
  | _, _, .scr h ha hf hs => .scr (k.rd h ha).1 (k.rd h ha).2 hf (Reps.mono k hs)
  | _, _, .ref h => .ref (k.get h)
theorem Reps.mono {K : PySem.W.Frag} {H H' : Hp} {m m' f : List Addr} (k : Keep H H' m m') : ∀ {ws : List W} {vs : List V}, Reps K H m f ws vs → Reps K H' m' f ws vs
  | _, _, .nil => .nil
  | _, _, .cons h hs => .cons (Rep.mono k h) (Reps.mono k hs)
end

theorem rd_ne {H : Hp} {a p : Addr} {o : HO} (h : Rd H a o) (hp : H p = none) : a ≠ p := by
  rcases h with h | ⟨x, h⟩
  · exact ne_of_none h hp
  · exact ne_of_none h hp
theorem rd_laid {H : Hp} {a p : Addr} {o u : HO} (h : Rd H a o) (hp : H p = none) : Rd (upd H p u) a o := by
  rcases h with h | ⟨x, h⟩
  · exact Or.inl (by rw [upd_ne (ne_of_none h hp)]; exact h)
  · exact Or.inr ⟨x, by rw [upd_ne (ne_of_none h hp)]; exact h⟩
mutual
/-- what does not speak of a, nor of f -/
theorem Rep.weaken {K : PySem.W.Frag} {H : Hp} {m f : List Addr} {a : Addr} : ∀ {w : W} {v : V}, Rep K H m (a :: f) w v → Rep K H m f w v
  | _, _, .non => .non
  | _, _, .bl b => .bl b
  | _, _, .int i => .int i
  | _, _, .str s => .str s
  | _, _, .tup h ha hf hs => .tup h ha (fun z => hf (List.mem_cons_of_mem _ z)) (Reps.weaken hs)
  | _, _, .ktup h hs => .ktup h (Reps.weaken hs)
  | _, _, .kscr h hs => .kscr h (Reps.weaken hs)
  | _, _, .lst h ha hf hs => .lst h ha (fun z => hf (List.mem_cons_of_mem _ z)) (Reps.weaken hs)
  | _, _, .scr h ha hf hs => .scr h ha (fun z => hf (List.mem_cons_of_mem _ z)) (Reps.weaken hs)
  | _, _, .ref h => .ref h
theorem Reps.weaken {K : PySem.W.Frag} {H : Hp} {m f : List Addr} {a : Addr} : ∀ {ws : List W} {vs : List V}, Reps K H m (a :: f) ws vs → Reps K H m f ws vs
  | _, _, .nil => .nil
  | _, _, .cons h hs => .cons (Rep.weaken h) (Reps.weaken hs)
end
theorem notin_grow {m f : List Addr} {a b : Addr} (h1 : b ∉ m) (h2 : b ∉ a :: f) : b ∉ m ++ [a] := fun z =>
  (List.mem_append.mp z).elim h1 fun z => h2 (by rw [List.mem_singleton.mp z]; exact List.mem_cons_self)
mutual
/-- a becomes a cell -/
theorem Rep.grow {K : PySem.W.Frag} {H : Hp} {m f : List Addr} {a : Addr} : ∀ {w : W} {v : V}, Rep K H m (a :: f) w v → Rep K H (m ++ [a]) f w v
  | _, _, .non => .non
  | _, _, .bl b => .bl b
  | _, _, .int i => .int i
  | _, _, .str s => .str s
  | _, _, .tup h ha hf hs => .tup h (notin_grow ha hf) (fun z => hf (List.mem_cons_of_mem _ z)) (Reps.grow hs)
  | _, _, .ktup h hs => .ktup h (Reps.grow hs)
  | _, _, .kscr h hs => .kscr h (Reps.grow hs)
  | _, _, .lst h ha hf hs => .lst h (notin_grow ha hf) (fun z => hf (List.mem_cons_of_mem _ z)) (Reps.grow hs)
  | _, _, .scr h ha hf hs => .scr h (notin_grow ha hf) (fun z => hf (List.mem_cons_of_mem _ z)) (Reps.grow hs)
  | _, _, .ref h => .ref (by rw [List.getElem?_append_left (List.getElem?_eq_some_iff.mp h).1]; exact h)
theorem Reps.grow {K : PySem.W.Frag} {H : Hp} {m f : List Addr} {a : Addr} : ∀ {ws : List W} {vs : List V}, Reps K H m (a :: f) ws vs → Reps K H (m ++ [a]) f ws vs
  | _, _, .nil => .nil
  | _, _, .cons h hs => .cons (Rep.grow h) (Reps.grow hs)
end
theorem notin_new {f : List Addr} {a p : Addr} (h1 : a ≠ p) (h2 : a ∉ f) : a ∉ p :: f := fun z => (List.mem_cons.mp z).elim h1 h2
mutual
/-- a new object is laid that nothing speaks of -/
theorem Rep.aside {K : PySem.W.Frag} {H : Hp} {m f : List Addr} {p : Addr} {o : HO} (hp : H p = none) : ∀ {w : W} {v : V}, Rep K H m f w v → Rep K (upd H p o) m (p :: f) w v
  | _, _, .non => .non
  | _, _, .bl b => .bl b
  | _, _, .int i => .int i
  | _, _, .str s => .str s
  | _, _, .tup h ha hf hs => .tup (rd_laid h hp) ha (notin_new (rd_ne h hp) hf) (Reps.aside hp hs)
  | _, _, .ktup h hs => .ktup h (Reps.aside hp hs)
  | _, _, .kscr h hs => .kscr h (Reps.aside hp hs)
  | _, _, .lst h ha hf hs => .lst (by rw [upd_ne (ne_of_none h hp)]; exact h) ha (notin_new (ne_of_none h hp) hf) (Reps.aside hp hs)
  | _, _, .scr h ha hf hs => .scr (rd_laid h hp) ha (notin_new (rd_ne h hp) hf) (Reps.aside hp hs)
  | _, _, .ref h => .ref h
theorem Reps.aside {K : PySem.W.Frag} {H : Hp} {m f : List Addr} {p : Addr} {o : HO} (hp : H p = none) : ∀ {ws : List W} {vs : List V}, Reps K H m f ws vs → Reps K (upd H p o) m (p :: f) ws vs
  | _, _, .nil => .nil
  | _, _, .cons h hs => .cons (Rep.aside hp h) (Reps.aside hp hs)
end

/-- what a cell holds lies at a -/
def RepO (K : PySem.W.Frag) (H : Hp) (m f : List Addr) (a : Addr) : Ob → Prop
  | .lst xs => ∃ vs, H a = some (.lst vs) ∧ Reps K H m f xs vs
  | .ins _ _ => False
/-- the cells lie as they are -/
structure Cells (K : PySem.W.Frag) (H : Hp) (m f : List Addr) (cs : List Ob) : Prop where
  len : cs.length = m.length
  nd : m.Nodup
  fd : ∀ a ∈ f, H a ≠ none
  fm : ∀ a ∈ f, a ∉ m
  at_ : ∀ (n : Nat) (a : Addr) (o : Ob), m[n]? = some a → cs[n]? = some o → RepO K H m f a o
/-- the slots -/
def EnvR (K : PySem.W.Frag) (H : Hp) (m f : List Addr) (ρ : ME) (σ : LS) : Prop :=
  ρ.length = σ.length ∧ ∀ (i : Nat) (w : W), ρ[i]? = some (some w) → ∃ v, σ[i]? = some (some v) ∧ Rep K H m f w v
theorem EnvR.mono {K : PySem.W.Frag} {H H' : Hp} {m m' f : List Addr} {ρ : ME} {σ : LS} (k : Keep H H' m m') (e : EnvR K H m f ρ σ) : EnvR K H' m' f ρ σ :=
  ⟨e.1, fun i w h => let ⟨v, h1, h2⟩ := e.2 i w h; ⟨v, h1, h2.mono k⟩⟩
theorem Cells.weaken {K : PySem.W.Frag} {H : Hp} {m f : List Addr} {a : Addr} {cs : List Ob} (c : Cells K H m (a :: f) cs) : Cells K H m f cs := by
  refine ⟨c.len, c.nd, fun b hb => c.fd b (List.mem_cons_of_mem _ hb), fun b hb => c.fm b (List.mem_cons_of_mem _ hb), fun n b o h1 h2 => ?_⟩
  have h := c.at_ n b o h1 h2
  cases o with
  | lst xs =>
    obtain ⟨vs, h3, h4⟩ := h
    exact ⟨vs, h3, h4.weaken⟩
  | ins c fs => exact h
theorem Cells.grow {K : PySem.W.Frag} {H : Hp} {m f : List Addr} {a : Addr} {cs : List Ob} {xs : List W} {vs : List V} (c : Cells K H m (a :: f) cs) (hf : a ∉ f) (hl : H a = some (.lst vs)) (hx : Reps K H m (a :: f) xs vs) :
    Cells K H (m ++ [a]) f (cs ++ [.lst xs]) := by
  have ha : a ∉ m := c.fm a List.mem_cons_self
  refine ⟨by rw [List.length_append, List.length_append, c.len] <;> rfl, ?_, fun b hb => c.fd b (List.mem_cons_of_mem _ hb), fun b hb => ?_, fun n b o h1 h2 => ?_⟩
  · refine List.nodup_append.mpr ⟨c.nd, by simp, fun x hx y hy e => ?_⟩
    rw [List.mem_singleton.mp hy] at e
    exact ha (e ▸ hx)
  · intro z
    rcases List.mem_append.mp z with z | z
    · exact c.fm b (List.mem_cons_of_mem _ hb) z
    · rw [List.mem_singleton.mp z] at hb
      exact hf hb
  · by_cases hn : n < m.length
    · rw [List.getElem?_append_left hn] at h1
      rw [List.getElem?_append_left (by rw [c.len]; exact hn)] at h2
      have h := c.at_ n b o h1 h2
      cases o with
      | lst xs =>
        obtain ⟨vs, h3, h4⟩ := h
        exact ⟨vs, h3, h4.grow⟩
      | ins c fs => exact h.elim
    · have h0 : n = m.length := by
        have := (List.getElem?_eq_some_iff.mp h1).1
        rw [List.length_append] at this
        simp at this
        omega
      subst h0
      rw [List.getElem?_append_right (Nat.le_refl _), Nat.sub_self] at h1
      rw [List.getElem?_append_right (by rw [c.len] <;> exact Nat.le_refl _), c.len, Nat.sub_self] at h2
      simp at h1 h2
      subst h1
      subst h2
      exact ⟨vs, hl, hx.grow⟩
theorem Reps.length {K : PySem.W.Frag} {H : Hp} {m f : List Addr} : ∀ {ws : List W} {vs : List V}, Reps K H m f ws vs → ws.length = vs.length
  | _, _, .nil => rfl
  | _, _, .cons _ hs => congrArg (· + 1) (Reps.length hs)
theorem Reps.get {K : PySem.W.Frag} {H : Hp} {m f : List Addr} : ∀ {ws : List W} {vs : List V} {i : Nat} {w : W}, Reps K H m f ws vs → ws[i]? = some w → ∃ v, vs[i]? = some v ∧ Rep K H m f w v
  | _, _, _, _, .nil, e => by simp at e
  | _, _, 0, _, .cons r _, e => by
    simp at e
    subst e
    exact ⟨_, rfl, r⟩
  | _, _, i + 1, _, .cons _ t, e => by
    obtain ⟨v, h1, h2⟩ := Reps.get (i := i) t (by simpa using e)
    exact ⟨v, by simpa using h1, h2⟩
theorem Reps.getV {K : PySem.W.Frag} {H : Hp} {m f : List Addr} : ∀ {ws : List W} {vs : List V} {i : Nat} {v : V}, Reps K H m f ws vs → vs[i]? = some v → ∃ w, ws[i]? = some w ∧ Rep K H m f w v
  | _, _, _, _, .nil, e => by simp at e
  | _, _, 0, _, .cons r _, e => by
    simp at e
    subst e
    exact ⟨_, rfl, r⟩
  | _, _, i + 1, _, .cons _ t, e => by
    obtain ⟨v, h1, h2⟩ := Reps.getV (i := i) t (by simpa using e)
    exact ⟨v, by simpa using h1, h2⟩
theorem Reps.append {K : PySem.W.Frag} {H : Hp} {m f : List Addr} : ∀ {ws us : List W} {vs zs : List V}, Reps K H m f ws vs → Reps K H m f us zs → Reps K H m f (ws ++ us) (vs ++ zs)
  | _, _, _, _, .nil, s => s
  | _, _, _, _, .cons r t, s => .cons r (Reps.append t s)
theorem Reps.take {K : PySem.W.Frag} {H : Hp} {m f : List Addr} : ∀ {ws : List W} {vs : List V} (n : Nat), Reps K H m f ws vs → Reps K H m f (ws.take n) (vs.take n)
  | _, _, 0, _ => .nil
  | _, _, _ + 1, .nil => .nil
  | _, _, n + 1, .cons r t => .cons r (Reps.take n t)
theorem Reps.drop {K : PySem.W.Frag} {H : Hp} {m f : List Addr} : ∀ {ws : List W} {vs : List V} (n : Nat), Reps K H m f ws vs → Reps K H m f (ws.drop n) (vs.drop n)
  | _, _, 0, r => r
  | _, _, _ + 1, .nil => .nil
  | _, _, n + 1, .cons _ t => Reps.drop n t
theorem Reps.set {K : PySem.W.Frag} {H : Hp} {m f : List Addr} {w : W} {v : V} (r : Rep K H m f w v) : ∀ {ws : List W} {vs : List V} (i : Nat), Reps K H m f ws vs → Reps K H m f (ws.set i w) (vs.set i v)
  | _, _, _, .nil => .nil
  | _, _, 0, .cons _ t => .cons r t
  | _, _, i + 1, .cons q t => .cons q (Reps.set r i t)
theorem Reps.eraseIdx {K : PySem.W.Frag} {H : Hp} {m f : List Addr} : ∀ {ws : List W} {vs : List V} (i : Nat), Reps K H m f ws vs → Reps K H m f (ws.eraseIdx i) (vs.eraseIdx i)
  | _, _, _, .nil => .nil
  | _, _, 0, .cons _ t => t
  | _, _, i + 1, .cons q t => .cons q (Reps.eraseIdx i t)
theorem Reps.dropLast {K : PySem.W.Frag} {H : Hp} {m f : List Addr} : ∀ {ws : List W} {vs : List V}, Reps K H m f ws vs → Reps K H m f ws.dropLast vs.dropLast
  | _, _, .nil => .nil
  | _, _, .cons _ .nil => .nil
  | _, _, .cons q (.cons r t) => .cons q (Reps.dropLast (.cons r t))
theorem Reps.reverse {K : PySem.W.Frag} {H : Hp} {m f : List Addr} : ∀ {ws : List W} {vs : List V}, Reps K H m f ws vs → Reps K H m f ws.reverse vs.reverse
  | _, _, .nil => .nil
  | _, _, .cons q t => by
    rw [List.reverse_cons, List.reverse_cons]
    exact (Reps.reverse t).append (.cons q .nil)
theorem Reps.rep {K : PySem.W.Frag} {H : Hp} {m f : List Addr} {ws : List W} {vs : List V} (h : Reps K H m f ws vs) : ∀ n : Nat, Reps K H m f (List.replicate n ws).flatten (List.replicate n vs).flatten
  | 0 => .nil
  | n + 1 => by
    rw [List.replicate_succ, List.replicate_succ, List.flatten_cons, List.flatten_cons]
    exact h.append (Reps.rep h n)
theorem EnvR.set {K : PySem.W.Frag} {H : Hp} {m f : List Addr} {ρ : ME} {σ : LS} (e : EnvR K H m f ρ σ) {i : Nat} {w : W} {v : V} (r : Rep K H m f w v) : EnvR K H m f (ρ.set i (some w)) (σ.set i (some v)) := by
  refine ⟨by rw [List.length_set, List.length_set]; exact e.1, fun j u h => ?_⟩
  by_cases z : j = i
  · subst z
    have hl : j < ρ.length := by
      have := (List.getElem?_eq_some_iff.mp h).1
      rwa [List.length_set] at this
    rw [List.getElem?_set_self hl] at h
    cases h
    exact ⟨v, List.getElem?_set_self (by rw [← e.1]; exact hl), r⟩
  · rw [List.getElem?_set_ne (Ne.symm z)] at h
    obtain ⟨x, h1, h2⟩ := e.2 j u h
    exact ⟨x, by rw [List.getElem?_set_ne (Ne.symm z)]; exact h1, h2⟩
theorem EnvR.wipe {K : PySem.W.Frag} {H : Hp} {m f : List Addr} {ρ : ME} {σ : LS} (e : EnvR K H m f ρ σ) : ∀ is : List Nat, EnvR K H m f (Mi.wipe ρ is) (L2.wipe σ is)
  | [] => e
  | i :: is => by
    have q := EnvR.wipe e is
    refine ⟨?_, fun j u h => ?_⟩
    · show ((Mi.wipe ρ is).set i none).length = ((L2.wipe σ is).set i none).length
      rw [List.length_set, List.length_set]
      exact q.1
    · have h' : ((Mi.wipe ρ is).set i none)[j]? = some (some u) := h
      show ∃ v, ((L2.wipe σ is).set i none)[j]? = some (some v) ∧ Rep K H m f u v
      by_cases z : j = i
      · subst z
        have hl : j < (Mi.wipe ρ is).length := by
          have := (List.getElem?_eq_some_iff.mp h').1
          rwa [List.length_set] at this
        rw [List.getElem?_set_self hl] at h'
        cases h'
      · rw [List.getElem?_set_ne (Ne.symm z)] at h'
        obtain ⟨x, h1, h2⟩ := q.2 j u h'
        exact ⟨x, by rw [List.getElem?_set_ne (Ne.symm z)]; exact h1, h2⟩

/-- the value of an evaluation: data that stand, or a list just made that nothing else speaks of -/
inductive Out (K : PySem.W.Frag) (H : Hp) (m f : List Addr) (H' : Hp) (m' : List Addr) : W → List Ob → V → Prop
  | old {w : W} {cs : List Ob} {v : V} : Rep K H' m' f w v → Cells K H' m' f cs → Out K H m f H' m' w cs v
  | new {xs : List W} {vs : List V} {a : Addr} {cs : List Ob} : H a = none → a ∉ f → H' a = some (.lst vs) → Reps K H' m' (a :: f) xs vs → Cells K H' m' (a :: f) cs → Out K H m f H' m' (.new xs) cs (.ref a)
section
variable {K : PySem.W.Frag} {H H' H0 : Hp} {m m' m0 f : List Addr} {w : W} {v : V} {cs : List Ob}
theorem Rep.fz (r : Rep K H m f w v) : Rep K H m f (Mi.fz w) v := by
  cases r with
  | non => exact .non
  | bl b => exact .bl b
  | int i => exact .int i
  | str s => exact .str s
  | tup h1 h2 h3 h4 => exact .tup h1 h2 h3 h4
  | ktup h1 h2 => exact .ktup h1 h2
  | lst h1 h2 h3 h4 => exact .lst h1 h2 h3 h4
  | scr h1 h2 h3 h4 => exact .scr h1 h2 h3 h4
  | kscr h1 h2 => exact .kscr h1 h2
  | ref h => exact .ref h
theorem Out.rep (o : Out K H m f H' m' w cs v) : Rep K H' m' f (Mi.fz w) v := by
  cases o with
  | old r _ => exact r.fz
  | new _ h2 h3 h4 h5 => exact .lst h3 (h5.fm _ List.mem_cons_self) h2 h4.weaken
theorem Out.cells (o : Out K H m f H' m' w cs v) : Cells K H' m' f cs := by
  cases o with
  | old _ c => exact c
  | new _ _ _ _ c => exact c.weaken
/-- seen from an earlier heap -/
theorem Out.back (k : Keep H0 H m0 m) (o : Out K H m f H' m' w cs v) : Out K H0 m0 f H' m' w cs v := by
  cases o with
  | old r c => exact .old r c
  | new h1 h2 h3 h4 h5 => exact .new (k.dom _ h1) h2 h3 h4 h5
end
end So
end S_Rel

section S_Vals
set_option Elab.async false
set_option linter.all false
set_option maxRecDepth 100000
set_option maxHeartbeats 4000000
/-! Vals: the operators on values, as the evaluator has them. -/
namespace So
open PySem PySem.Spec PyProof.Rows L2
open Mi (W Ob Xn R Orc)

/-- an answer that is none of an exception, and what is wanted of it -/
def Rq {α : Type} (r : R α) (q : α → List Ob → Prop) : Prop :=
  match r with
  | .ok a cs => q a cs
  | .exn _ _ => True
  | .bad => False
theorem Rq.ofO {α : Type} {o : Option α} {cs : List Ob} {q : α → List Ob → Prop} (h : Rq (Mi.ofO o cs) q) : ∃ a, o = some a ∧ q a cs := by
  cases o with
  | none => exact h.elim
  | some a => exact ⟨a, rfl, h⟩

section
variable {K : PySem.W.Frag} {H : Hp} {m f : List Addr} {cs : List Ob}
theorem sl_le {n : Nat} (h : n ≤ Mi.lim) : n ≤ sizeLine := Nat.le_trans h (by rw [sizeLine_eq]; decide)
theorem Rep.noNew {w : W} {v : V} (h : Rep K H m f w v) : Mi.fz w = w := by
  cases h <;> rfl
theorem Cells.notin {a : Addr} (c : Cells K H m f cs) (h : H a = none) : a ∉ m := fun z => by
  obtain ⟨n, hn⟩ := List.getElem?_of_mem z
  have hl : n < cs.length := by
    rw [c.len]
    exact (List.getElem?_eq_some_iff.mp hn).1
  have q := c.at_ n a cs[n] hn (List.getElem?_eq_getElem hl)
  cases e : cs[n] with
  | lst xs =>
    rw [e] at q
    obtain ⟨vs, h1, _⟩ := q
    rw [h] at h1
    cases h1
  | ins x fs =>
    rw [e] at q
    exact q
theorem Cells.notf {a : Addr} (c : Cells K H m f cs) (h : H a = none) : a ∉ f := fun z => c.fd a z h
theorem Cells.mono {H' : Hp} (k : Keep H H' m m) (c : Cells K H m f cs) (hs : ∀ a ∈ m, H' a = H a) : Cells K H' m f cs := by
  refine ⟨c.len, c.nd, fun a ha e => c.fd a ha (k.dom a e), c.fm, fun n a o h1 h2 => ?_⟩
  have q := c.at_ n a o h1 h2
  cases o with
  | lst xs =>
    obtain ⟨vs, h3, h4⟩ := q
    exact ⟨vs, by rw [hs a (List.mem_of_getElem? h1)]; exact h3, h4.mono k⟩
  | ins x fs => exact q
theorem Cells.laid {p : Addr} {o : HO} (c : Cells K H m f cs) (h : H p = none) : Cells K (upd H p o) m f cs :=
  c.mono (Keep.new h) fun a ha => upd_ne fun z => c.notin h (z ▸ ha)
/-- a new object aside -/
theorem Cells.aside {p : Addr} {o : HO} (c : Cells K H m f cs) (h : H p = none) : Cells K (upd H p o) m (p :: f) cs := by
  have c' := c.laid (o := o) h
  refine ⟨c.len, c.nd, fun a ha => ?_, fun a ha => ?_, fun n a ob h1 h2 => ?_⟩
  · rcases List.mem_cons.mp ha with e | ha
    · rw [e, upd_same]
      exact fun z => nomatch z
    · exact c'.fd a ha
  · rcases List.mem_cons.mp ha with e | ha
    · rw [e]
      exact c.notin h
    · exact c.fm a ha
  · have q := c.at_ n a ob h1 h2
    cases ob with
    | lst xs =>
      obtain ⟨vs, h3, h4⟩ := q
      exact ⟨vs, by rw [upd_ne (ne_of_none h3 h)]; exact h3, h4.aside h⟩
    | ins x fs => exact q
theorem out_new {p : Addr} {xs : List W} {vs : List V} (c : Cells K H m f cs) (h : H p = none) (r : Reps K H m f xs vs) : Out K H m f (upd H p (.lst vs)) m (.new xs) cs (.ref p) :=
  .new h (c.notf h) upd_same (r.aside h) (c.aside h)
theorem rep_tup {p : Addr} {xs : List W} {vs : List V} (c : Cells K H m f cs) (h : H p = none) (r : Reps K H m f xs vs) : Rep K (upd H p (.tup vs)) m f (.tup xs) (.ref p) :=
  .tup (Rd.of upd_same) (c.notin h) (c.notf h) (r.mono (Keep.new h))
theorem out_tup {p : Addr} {xs : List W} {vs : List V} (c : Cells K H m f cs) (h : H p = none) (r : Reps K H m f xs vs) : Out K H m f (upd H p (.tup vs)) m (.tup xs) cs (.ref p) :=
  .old (rep_tup c h r) (c.laid h)

theorem Cells.lst (c : Cells K H m f cs) {n : Nat} {a : Addr} {xs : List W} (h : m[n]? = some a) (e : Mi.cellL cs n = some xs) : ∃ vs, H a = some (.lst vs) ∧ Reps K H m f xs vs := by
  unfold Mi.cellL at e
  split at e
  · rename_i ys he
    cases e
    exact c.at_ n a _ h he
  · cases e
theorem SqT.ofRep {ws : List W} {v : V} (h : Rep K H m f (.tup ws) v) : ∃ a vs, v = .ref a ∧ SqT K H a vs ∧ Reps K H m f ws vs := by
  cases h with
  | tup h1 _ _ h3 => exact ⟨_, _, rfl, .inl h1, h3⟩
  | ktup h1 h2 => exact ⟨_, _, rfl, .inr h1, h2⟩
/-- a list by its items -/
theorem rep_itemsL {w : W} {v : V} {xs : List W} (c : Cells K H m f cs) (r : Rep K H m f (Mi.fz w) v) (e : Mi.itemsL cs w = some xs) : ∃ a vs, v = .ref a ∧ H a = some (.lst vs) ∧ Reps K H m f xs vs := by
  cases w with
  | lst ys =>
    cases e
    cases r with
    | lst h1 _ _ h3 => exact ⟨_, _, rfl, h1, h3⟩
  | new ys =>
    cases e
    cases r with
    | lst h1 _ _ h3 => exact ⟨_, _, rfl, h1, h3⟩
  | ref n =>
    cases r with
    | ref h =>
      obtain ⟨vs, h1, h2⟩ := c.lst h e
      exact ⟨_, vs, rfl, h1, h2⟩
  | _ => cases e
theorem rep_items {w : W} {v : V} {xs : List W} (c : Cells K H m f cs) (r : Rep K H m f (Mi.fz w) v) (e : Mi.items cs w = some xs) : ∃ a vs, v = .ref a ∧ (SqL K H a vs ∨ SqT K H a vs) ∧ Reps K H m f xs vs := by
  cases w with
  | tup ys =>
    cases e
    obtain ⟨a, vs, h1, h2, h3⟩ := SqT.ofRep r
    exact ⟨a, vs, h1, .inr h2, h3⟩
  | lst ys =>
    obtain ⟨a, vs, h1, h2, h3⟩ := rep_itemsL (w := .lst ys) c r e
    exact ⟨a, vs, h1, .inl (SqL.of h2), h3⟩
  | new ys =>
    obtain ⟨a, vs, h1, h2, h3⟩ := rep_itemsL (w := .new ys) c r e
    exact ⟨a, vs, h1, .inl (SqL.of h2), h3⟩
  | scr ys =>
    cases e
    cases r with
    | scr h1 _ _ h3 => exact ⟨_, _, rfl, .inl (.inl h1), h3⟩
    | kscr h1 h3 => exact ⟨_, _, rfl, .inl (.inr h1), h3⟩
  | ref n =>
    obtain ⟨a, vs, h1, h2, h3⟩ := rep_itemsL (w := .ref n) c r e
    exact ⟨a, vs, h1, .inl (SqL.of h2), h3⟩
  | _ => cases e
end

/-! ### binary operators -/
def bopOf : Mi.Bop → Operator
  | .add => .Add | .sub => .Sub | .mul => .Mult | .fdiv => .FloorDiv | .mod => .Mod | .pow => .Pow
  | .shl => .LShift | .shr => .RShift | .band => .BitAnd | .bor => .BitOr | .bxor => .BitXor
/-- what is asked of two values for an operation f of the evaluator -/
def rvB (K : PySem.W.Frag) (fn : W → W → List Ob → R W) : R2 := fun x y H Q => ∃ (wa wb : W) (cs : List Ob) (m f : List Addr), Rep K H m f (Mi.fz wa) x ∧ Rep K H m f (Mi.fz wb) y ∧ Cells K H m f cs ∧
  Rq (fn wa wb cs) fun w cs' => ∀ v H' m', Keep H H' m m' → Out K H m f H' m' w cs' v → Q v H'
section
variable {X : Cx}
theorem bopI_ok {op : Mi.Bop} {i j k : Int} {pins : List (Addr × Obj)} {s : Shared} {σ : LS} {H : Hp} {v u : Value} {Q : VK} (I : Inv X pins σ H s) (rx : RelV (.int i) v) (ry : RelV (.int j) u) (e : Mi.bopI op i j = some k) (q : Q (.int k) H) :
    wpAny (model X.prog X.w) X.A (binaryOp (bopOf op) v u) (EP X pins σ Q) X.xe s := by
  cases op with
  | add =>
    cases e
    exact op_add pins s σ H _ _ v u Q I rx ry ⟨i, j, rfl, rfl, q⟩
  | sub =>
    cases e
    exact op_sub pins s σ H _ _ v u Q I rx ry ⟨i, j, rfl, rfl, q⟩
  | mul =>
    simp only [Mi.bopI] at e
    split at e
    · rename_i h
      cases e
      refine op_mul pins s σ H _ _ v u Q I rx ry ⟨i, j, rfl, rfl, ?_, q⟩
      unfold Mi.mulOk Mi.big at h
      rcases Bool.or_eq_true_iff.mp h with h | h
      · obtain ⟨h1, h2⟩ := Bool.and_eq_true_iff.mp h
        have g1 := of_decide_eq_true h1
        have g2 := of_decide_eq_true h2
        exact .inl ⟨by omega, by omega⟩
      · obtain ⟨h1, h2⟩ := Bool.and_eq_true_iff.mp h
        have g1 := of_decide_eq_true h1
        have g2 := of_decide_eq_true h2
        exact .inr ⟨by omega, by omega⟩
    · cases e
  | fdiv =>
    simp only [Mi.bopI] at e
    split at e
    · rename_i h
      cases e
      refine op_fdiv pins s σ H _ _ v u Q I rx ry ⟨i, j, rfl, rfl, ⟨h.1, h.2⟩, q⟩
    · cases e
  | mod =>
    simp only [Mi.bopI] at e
    split at e
    · rename_i h
      cases e
      exact op_mod pins s σ H _ _ v u Q I rx ry ⟨i, j, rfl, rfl, h, q⟩
    · cases e
  | pow =>
    simp only [Mi.bopI] at e
    split at e
    · rename_i h
      cases e
      exact op_pow pins s σ H _ _ v u Q I rx ry ⟨i, j, rfl, rfl, ⟨h.1, by omega, by omega⟩, q⟩
    · cases e
  | shl =>
    simp only [Mi.bopI] at e
    split at e
    · rename_i h
      cases e
      exact op_shl pins s σ H _ _ v u Q I rx ry ⟨i, j, rfl, rfl, ⟨h.1, by omega, by omega⟩, q⟩
    · cases e
  | shr =>
    simp only [Mi.bopI] at e
    split at e
    · rename_i h
      cases e
      exact op_shr pins s σ H _ _ v u Q I rx ry ⟨i, j, rfl, rfl, h, q⟩
    · cases e
  | band => cases e
  | bor => cases e
  | bxor => cases e
theorem vs_nil {ws : List W} {vs : List V} {K : PySem.W.Frag} {H : Hp} {m f : List Addr} (r : Reps K H m f ws vs) : vs = [] ↔ ws = [] := by
  cases r <;> simp
theorem op_bop (op : Mi.Bop) : OpR X (binaryOp (bopOf op)) (rvB X.K (Mi.bop op)) := by
  intro pins s σ H x y v u Q I rx ry ⟨wa, wb, cs, m, f, ra, rb, c, h⟩
  unfold Mi.bop at h
  split at h
  · -- two ints
    rename_i i j
    cases ra
    cases rb
    split at h
    · rename_i k e
      exact bopI_ok I rx ry e (h _ H m Keep.refl (.old (.int k) c))
    · exact h.elim
  · -- two tuples
    rename_i xs ys _
    obtain ⟨a, va, e1, q1, p1⟩ := SqT.ofRep ra
    obtain ⟨b, vb, e2, q2, p2⟩ := SqT.ofRep rb
    subst e1 e2
    unfold Mi.mkTup at h
    split at h
    · rename_i hz
      have hz' : va.length + vb.length ≤ sizeLine := by
        rw [← p1.length, ← p2.length, ← List.length_append]
        exact sl_le hz
      refine op_catA pins s σ H _ _ v u Q I rx ry ⟨a, b, va, vb, rfl, rfl, q1, q2, hz', fun e => ?_, fun _ e => ?_, fun _ _ p hp => ?_⟩
      · have e' := (vs_nil p1).mp e
        subst e'
        exact h _ H m Keep.refl (.old rb c)
      · have e' := (vs_nil p2).mp e
        subst e'
        rw [List.append_nil] at h
        exact h _ H m Keep.refl (.old ra c)
      · exact h _ _ m (Keep.new hp) (out_tup c hp (p1.append p2))
    · exact h.elim
  · -- two lists
    rename_i a b _ _
    split at h
    · rename_i xs ys e1 e2
      obtain ⟨a, va, f1, q1, p1⟩ := rep_itemsL c ra e1
      obtain ⟨b, vb, f2, q2, p2⟩ := rep_itemsL c rb e2
      subst f1 f2
      unfold Mi.mkNew at h
      split at h
      · rename_i hz
        refine op_cat pins s σ H _ _ v u Q I rx ry ⟨a, b, va, vb, rfl, rfl, q1, q2, ?_, fun p hp => ?_⟩
        · rw [← p1.length, ← p2.length, ← List.length_append]
          exact sl_le hz
        · exact h _ _ m (Keep.new hp) (out_new c hp (p1.append p2))
      · exact h.elim
    · exact h.elim
  · -- tuple * int
    rename_i xs j
    obtain ⟨a, va, e1, q1, p1⟩ := SqT.ofRep ra
    subst e1
    cases rb
    split at h
    · rename_i hc
      unfold Mi.mkTup at h
      split at h
      · refine op_repT pins s σ H _ _ v u Q I rx ry ⟨a, j, va, rfl, rfl, q1, fun e => hc.2.2.2 ((vs_nil p1).mp e), hc.1, hc.2.1, by rw [← p1.length]; exact hc.2.2.1, fun p hp => ?_⟩
        exact h _ _ m (Keep.new hp) (out_tup c hp (p1.rep _))
      · exact h.elim
    · exact h.elim
  · -- list * int
    rename_i a j _ _
    cases rb
    split at h
    · rename_i xs e1
      obtain ⟨a, va, f1, q1, p1⟩ := rep_itemsL c ra e1
      subst f1
      split at h
      · rename_i hc
        unfold Mi.mkNew at h
        split at h
        · rename_i hz
          refine op_rep pins s σ H _ _ v u Q I rx ry ⟨a, j, va, rfl, rfl, q1, by omega, by omega, ?_, fun p hp => ?_⟩
          · rw [PyProof.Rows.lm_len_rep_flat] at hz
            rw [← p1.length, Nat.mul_comm]
            exact sl_le hz
          · exact h _ _ m (Keep.new hp) (out_new c hp (p1.rep _))
        · exact h.elim
      · exact h.elim
    · exact h.elim
  · exact h.elim
end

/-! ### comparisons -/
def copOf : Mi.Cop → CmpOp
  | .eq => .Eq | .ne => .NotEq | .lt => .Lt | .le => .LtE | .gt => .Gt | .ge => .GtE | .isin => .In | .notin => .NotIn | .isN => .Is | .notN => .IsNot
mutual
def pd : W → PyData
  | .bl b => .bool b
  | .int i => .int i
  | .str s => .str s
  | .tup xs => .tuple (pds xs)
  | .lst xs => .list (pds xs)
  | _ => .none
def pds : List W → List PyData
  | [] => []
  | x :: xs => pd x :: pds xs
end
section
variable {K : PySem.W.Frag} {H : Hp} {m f : List Addr} {cs : List Ob}
theorem derefL_dp {d : W → Option W} {g : W → Bool} (hf : ∀ w w' v, Rep K H m f w v → d w = some w' → g w' = true → Dp K H v (pd w')) : ∀ {ws ws' : List W} {vs : List V}, Reps K H m f ws vs → Mi.derefL d ws = some ws' → ws'.all g = true → DpAll K H vs (pds ws')
  | _, _, _, .nil, e, _ => by
    cases e
    exact .nil
  | _, _, _, .cons (w := w) (ws := ws) r t, e, hg => by
    unfold Mi.derefL at e
    split at e
    · rename_i v vs e1 e2
      cases e
      rw [List.all_cons, Bool.and_eq_true] at hg
      exact .cons (hf _ _ _ r e1 hg.1) (derefL_dp hf t e2 hg.2)
    · cases e
theorem deref_dp (c : Cells K H m f cs) : ∀ (k : Nat) (w w' : W) (v : V), Rep K H m f (Mi.fz w) v → Mi.deref cs k w = some w' → Mi.okW k w' = true → Dp K H v (pd w')
  | 0, _, _, _, _, e, _ => by cases e
  | k + 1, w, w', v, r, e, hg => by
    have ih : ∀ w w' v, Rep K H m f w v → Mi.deref cs k w = some w' → Mi.okW k w' = true → Dp K H v (pd w') := fun w w' v r e hg => deref_dp c k w w' v r.fz e hg
    cases w with
    | non => cases e; cases r; exact .non
    | bl b => cases e; cases r; exact .bl b
    | int i => cases e; cases r; exact .int i
    | str x => cases e; cases r; exact .str x
    | scr xs =>
      simp only [Mi.deref, Option.map_eq_some_iff] at e
      obtain ⟨ys, e1, e2⟩ := e
      subst e2
      cases hg
    | tup xs =>
      simp only [Mi.deref, Option.map_eq_some_iff] at e
      obtain ⟨ys, e1, e2⟩ := e
      subst e2
      obtain ⟨a, vs, f1, q1, p1⟩ := SqT.ofRep r
      subst f1
      exact .tup q1 (derefL_dp ih p1 e1 hg)
    | lst xs =>
      simp only [Mi.deref, Option.map_eq_some_iff] at e
      obtain ⟨ys, e1, e2⟩ := e
      subst e2
      cases r with
      | lst h1 _ _ h3 => exact .lst (SqL.of h1) (derefL_dp ih h3 e1 hg)
    | new xs =>
      simp only [Mi.deref, Option.map_eq_some_iff] at e
      obtain ⟨ys, e1, e2⟩ := e
      subst e2
      cases r with
      | lst h1 _ _ h3 => exact .lst (SqL.of h1) (derefL_dp ih h3 e1 hg)
    | ref n =>
      simp only [Mi.deref] at e
      split at e
      · rename_i xs e0
        simp only [Option.map_eq_some_iff] at e
        obtain ⟨ys, e1, e2⟩ := e
        subst e2
        cases r with
        | ref hr =>
          obtain ⟨vs, h1, h2⟩ := c.lst hr e0
          exact .lst (SqL.of h1) (derefL_dp ih h2 e1 hg)
      · cases e
theorem okAll {k : Nat} (ih : ∀ w, Mi.okW k w = true → (pd w).canLay0 = true ∧ (pd w).depth ≤ k) : ∀ ws : List W, ws.all (Mi.okW k) = true → PyData.canLayAll0 (pds ws) = true ∧ PyData.depthAll (pds ws) ≤ k
  | [], _ => by
    simp [pds, PyData.canLayAll0, PyData.depthAll]
  | w :: ws, h => by
    rw [List.all_cons, Bool.and_eq_true] at h
    obtain ⟨h1, h2⟩ := ih w h.1
    obtain ⟨h3, h4⟩ := okAll ih ws h.2
    simp only [pds, PyData.canLayAll0, PyData.depthAll, h1, h3, Bool.and_self, true_and]
    omega
theorem ok_pd : ∀ (k : Nat) (w : W), Mi.okW k w = true → (pd w).canLay0 = true ∧ (pd w).depth ≤ k
  | 0, _, h => by cases h
  | k + 1, w, h => by
    cases w with
    | non => simp [pd, PyData.canLay0, PyData.depth]
    | bl b => simp [pd, PyData.canLay0, PyData.depth]
    | int i => simp [pd, PyData.canLay0, PyData.depth]
    | str x =>
      refine ⟨?_, ?_⟩
      · simp only [pd, PyData.canLay0]
        exact h
      · simp [pd, PyData.depth]
    | tup xs =>
      obtain ⟨h1, h2⟩ := okAll (ok_pd k) xs h
      simp only [pd, PyData.canLay0, PyData.depth, h1, true_and]
      omega
    | lst xs =>
      obtain ⟨h1, h2⟩ := okAll (ok_pd k) xs h
      simp only [pd, PyData.canLay0, PyData.depth, h1, true_and]
      omega
    | new xs => cases h
    | ref n => cases h
    | scr xs => cases h
theorem shaped_pd {w : W} (h : Mi.okW Mi.deep w = true) : SeqAt.shaped (pd w) = true := by
  obtain ⟨h1, h2⟩ := ok_pd _ w h
  unfold SeqAt.shaped
  rw [h1, Bool.true_and]
  exact decide_eq_true (Nat.le_trans h2 (by decide))
theorem eqW_pds {k : Nat} (ih : ∀ x y, Mi.okW k x = true → Mi.okW k y = true → Mi.eqW x y = PyData.eqv (pd x) (pd y)) : ∀ xs ys : List W, xs.all (Mi.okW k) = true → ys.all (Mi.okW k) = true → Mi.eqWs xs ys = PyData.eqvAll (pds xs) (pds ys)
  | [], [], _, _ => by simp [Mi.eqWs, pds, PyData.eqvAll]
  | [], _ :: _, _, _ => by simp [Mi.eqWs, pds, PyData.eqvAll]
  | _ :: _, [], _, _ => by simp [Mi.eqWs, pds, PyData.eqvAll]
  | x :: xs, y :: ys, h1, h2 => by
    rw [List.all_cons, Bool.and_eq_true] at h1 h2
    simp only [Mi.eqWs, pds, PyData.eqvAll, ih x y h1.1 h2.1, eqW_pds ih xs ys h1.2 h2.2]
theorem eqW_pd : ∀ (k : Nat) (x y : W), Mi.okW k x = true → Mi.okW k y = true → Mi.eqW x y = PyData.eqv (pd x) (pd y)
  | 0, _, _, h, _ => by cases h
  | k + 1, x, y, h1, h2 => by
    have ih := eqW_pds (eqW_pd k)
    cases x with
    | new xs => cases h1
    | ref n => cases h1
    | scr xs => cases h1
    | tup xs =>
      cases y with
      | tup ys =>
        simp only [Mi.eqW, pd, PyData.eqv]
        exact ih xs ys h1 h2
      | new ys => cases h2
      | ref n => cases h2
      | scr ys => cases h2
      | _ => simp [Mi.eqW, pd, PyData.eqv]
    | lst xs =>
      cases y with
      | lst ys =>
        simp only [Mi.eqW, pd, PyData.eqv]
        exact ih xs ys h1 h2
      | new ys => cases h2
      | ref n => cases h2
      | scr ys => cases h2
      | _ => simp [Mi.eqW, pd, PyData.eqv]
    | _ =>
      cases y with
      | new ys => cases h2
      | ref n => cases h2
      | scr ys => cases h2
      | _ => simp [Mi.eqW, pd, PyData.eqv]
theorem flatV_of {w : W} {v : V} (r : Rep K H m f w v) (h : Mi.isFlatW w = true) : flatV v = true := by
  cases r <;> first | rfl | cases h
theorem flatVs_of : ∀ {ws : List W} {vs : List V}, Reps K H m f ws vs → ws.all Mi.isFlatW = true → vs.all flatV = true
  | _, _, .nil, _ => rfl
  | _, _, .cons r t, h => by
    rw [List.all_cons, Bool.and_eq_true] at h
    rw [List.all_cons, Bool.and_eq_true]
    exact ⟨flatV_of r h.1, flatVs_of t h.2⟩
theorem eqV_of {a b : W} {x y : V} (ra : Rep K H m f a x) (rb : Rep K H m f b y) (ha : Mi.isFlatW a = true) (hb : Mi.isFlatW b = true) : eqV x y = Mi.eqW a b := by
  cases ra <;> first | (cases ha; done) | skip
  all_goals (cases rb <;> first | (simp [eqV, Mi.eqW]; done) | cases hb)
theorem inV_of {a : W} {x : V} (ra : Rep K H m f a x) (ha : Mi.isFlatW a = true) : ∀ {ws : List W} {vs : List V}, Reps K H m f ws vs → ws.all Mi.isFlatW = true → inV x vs = ws.any fun y => Mi.eqW y a
  | _, _, .nil, _ => rfl
  | _, _, .cons r t, h => by
    rw [List.all_cons, Bool.and_eq_true] at h
    have ih := inV_of ra ha t h.2
    unfold inV at ih ⊢
    rw [List.any_cons, List.any_cons, ih, eqV_of r ra h.1 ha]
theorem intsW_of : ∀ {xs : List W} {vs : List V} {ns : List Int}, Reps K H m f xs vs → Mi.intsW xs = some ns → vs = ns.map V.int
  | _, _, _, .nil, e => by
    cases e
    rfl
  | _, _, _, .cons (w := w) r t, e => by
    cases r <;> first | cases e | skip
    simp only [Mi.intsW, Option.map_eq_some_iff] at e
    obtain ⟨ms, e1, e2⟩ := e
    subst e2
    rw [intsW_of t e1] <;> rfl
theorem lexI_eq : ∀ ns ms : List Int, Mi.lexI ns ms = HT.lexLt ns ms
  | [], [] => rfl
  | [], _ :: _ => rfl
  | _ :: _, [] => rfl
  | a :: as, b :: bs => by
    unfold Mi.lexI HT.lexLt
    rw [lexI_eq as bs]
end
def rvC (K : PySem.W.Frag) (fn : W → W → List Ob → Option Bool) : R2 := fun x y H Q => ∃ (wa wb : W) (cs : List Ob) (m f : List Addr) (k : Bool), Rep K H m f (Mi.fz wa) x ∧ Rep K H m f (Mi.fz wb) y ∧ Cells K H m f cs ∧ fn wa wb cs = some k ∧ Q (.bl k) H
section
variable {X : Cx}
theorem op_cop (hu : X.A.units + 64 < cLine) (op : Mi.Cop) : OpR X (compareOp (copOf op)) (rvC X.K (Mi.cop op)) := by
  intro pins s σ H x y v u Q I rx ry ⟨wa, wb, cs, m, f, k, ra, rb, c, h, q⟩
  cases op with
  | eq =>
    simp only [Mi.cop] at h
    split at h
    · rename_i a b e1 e2
      split at h
      · rename_i hk
        rw [Bool.and_eq_true] at hk
        cases h
        exact op_eqD hu pins s σ H _ _ v u Q I rx ry ⟨pd a, pd b, deref_dp c _ _ _ _ ra e1 hk.1, deref_dp c _ _ _ _ rb e2 hk.2, shaped_pd hk.1, shaped_pd hk.2, by rw [← eqW_pd _ a b hk.1 hk.2]; exact q⟩
      · cases h
    · cases h
  | ne =>
    simp only [Mi.cop] at h
    split at h
    · rename_i a b e1 e2
      split at h
      · rename_i hk
        rw [Bool.and_eq_true] at hk
        cases h
        exact op_neD hu pins s σ H _ _ v u Q I rx ry ⟨pd a, pd b, deref_dp c _ _ _ _ ra e1 hk.1, deref_dp c _ _ _ _ rb e2 hk.2, shaped_pd hk.1, shaped_pd hk.2, by rw [← eqW_pd _ a b hk.1 hk.2]; exact q⟩
      · cases h
    · cases h
  | lt =>
    simp only [Mi.cop] at h
    split at h
    · cases h
      cases ra
      cases rb
      exact op_lt pins s σ H _ _ v u Q I rx ry ⟨_, _, rfl, rfl, q⟩
    · split at h
      · rename_i ns ms e1 e2
        cases h
        obtain ⟨a, va, f1, q1, p1⟩ := SqT.ofRep ra
        obtain ⟨b, vb, f2, q2, p2⟩ := SqT.ofRep rb
        subst f1 f2
        rw [intsW_of p1 e1] at q1
        rw [intsW_of p2 e2] at q2
        exact op_ltT (by omega) pins s σ H _ _ v u Q I rx ry ⟨a, b, ns, ms, rfl, rfl, q1, q2, by rw [← lexI_eq]; exact q⟩
      · cases h
    · cases h
  | le =>
    simp only [Mi.cop] at h
    split at h
    · cases h
      cases ra
      cases rb
      exact op_le pins s σ H _ _ v u Q I rx ry ⟨_, _, rfl, rfl, q⟩
    · cases h
  | gt =>
    simp only [Mi.cop] at h
    split at h
    · cases h
      cases ra
      cases rb
      exact op_gt pins s σ H _ _ v u Q I rx ry ⟨_, _, rfl, rfl, q⟩
    · cases h
  | ge =>
    simp only [Mi.cop] at h
    split at h
    · cases h
      cases ra
      cases rb
      exact op_ge pins s σ H _ _ v u Q I rx ry ⟨_, _, rfl, rfl, q⟩
    · cases h
  | isin =>
    simp only [Mi.cop] at h
    split at h
    · rename_i ys e
      split at h
      · rename_i hk
        rw [Bool.and_eq_true] at hk
        cases h
        obtain ⟨a, vs, f1, q1, p1⟩ := rep_items c rb e
        subst f1
        have hf : Mi.isFlatW (Mi.fz wa) = true := by
          cases wa <;> first | exact hk.1 | cases hk.1
        have e2 := inV_of ra hf p1 hk.2
        have e3 : (ys.any fun y => Mi.eqW y wa) = ys.any fun y => Mi.eqW y (Mi.fz wa) := by
          cases wa <;> first | rfl | cases hk.1
        refine op_in_seq pins s σ H _ _ v u Q I rx ry ⟨a, vs, rfl, q1, flatV_of ra hf, flatVs_of p1 hk.2, ?_⟩
        rw [if_neg Bool.false_ne_true, e2, ← e3]
        exact q
      · cases h
    · cases h
  | notin =>
    simp only [Mi.cop] at h
    split at h
    · rename_i ys e
      split at h
      · rename_i hk
        rw [Bool.and_eq_true] at hk
        cases h
        obtain ⟨a, vs, f1, q1, p1⟩ := rep_items c rb e
        subst f1
        have hf : Mi.isFlatW (Mi.fz wa) = true := by
          cases wa <;> first | exact hk.1 | cases hk.1
        have e2 := inV_of ra hf p1 hk.2
        have e3 : (ys.any fun y => Mi.eqW y wa) = ys.any fun y => Mi.eqW y (Mi.fz wa) := by
          cases wa <;> first | rfl | cases hk.1
        refine op_notIn_seq pins s σ H _ _ v u Q I rx ry ⟨a, vs, rfl, q1, flatV_of ra hf, flatVs_of p1 hk.2, ?_⟩
        rw [if_pos rfl, e2, ← e3]
        exact q
      · cases h
    · cases h
  | isN =>
    simp only [Mi.cop] at h
    split at h
    · cases h
      cases rb
      refine op_isN pins s σ H _ _ v u Q I rx ry ⟨rfl, ?_⟩
      cases wa <;> cases ra <;> simpa using q
    · cases h
  | notN =>
    simp only [Mi.cop] at h
    split at h
    · cases h
      cases rb
      refine op_notN pins s σ H _ _ v u Q I rx ry ⟨rfl, ?_⟩
      cases wa <;> cases ra <;> simpa using q
    · cases h
end
end So
end S_Vals

section S_Vals2
set_option Elab.async false
set_option linter.all false
set_option maxRecDepth 100000
set_option maxHeartbeats 4000000
/-! Vals2: places, slices, built-in functions, methods of lists. -/
namespace So
open PySem PySem.Spec PyProof.Rows L2
open Mi (W Ob Xn R Orc)

/-! ### places -/
theorem place_eq (n : Nat) (i : Int) : Mi.place n i = ixN n i := rfl
theorem bound_eq (n d : Nat) : ∀ o : Option Int, Mi.bound n d o = HT.sIx n d o
  | none => rfl
  | some _ => rfl
section
variable {K : PySem.W.Frag} {H : Hp} {m f : List Addr} {cs : List Ob}
theorem at_of {xs : List W} {vs : List V} {i : Int} {w : W} (r : Reps K H m f xs vs) (h : Mi.at? xs i = some w) : ∃ v, atI vs i = some v ∧ Rep K H m f w v := by
  unfold Mi.at? at h
  cases e : Mi.place xs.length i with
  | none =>
    rw [e] at h
    cases h
  | some j =>
    rw [e] at h
    obtain ⟨v, h1, h2⟩ := r.get h
    refine ⟨v, ?_, h2⟩
    unfold atI
    rw [← r.length, ← place_eq, e]
    exact h1
theorem cut_of {xs : List W} {vs : List V} (r : Reps K H m f xs vs) (lo hi : Option Int) : Reps K H m f (Mi.cut xs lo hi) (cutV vs lo hi) := by
  unfold Mi.cut cutV
  rw [bound_eq, bound_eq, r.length]
  exact (r.drop _).take _
theorem nodup_at {α : Type} : ∀ {l : List α} {i j : Nat} {x : α}, l.Nodup → l[i]? = some x → l[j]? = some x → i = j
  | [], _, _, _, _, h, _ => by simp at h
  | a :: l, 0, 0, _, _, _, _ => rfl
  | a :: l, 0, j + 1, x, nd, h, q => by
    have e : a = x := by simpa using h
    have q' : l[j]? = some x := by simpa using q
    exact absurd (e ▸ List.mem_of_getElem? q') (List.nodup_cons.mp nd).1
  | a :: l, i + 1, 0, x, nd, h, q => by
    have e : a = x := by simpa using q
    have q' : l[i]? = some x := by simpa using h
    exact absurd (e ▸ List.mem_of_getElem? q') (List.nodup_cons.mp nd).1
  | a :: l, i + 1, j + 1, x, nd, h, q => congrArg (· + 1) (nodup_at (List.nodup_cons.mp nd).2 (by simpa using h) (by simpa using q))
/-- a cell gets a new list -/
theorem Cells.set {n : Nat} {a : Addr} {xs : List W} {vs : List V} (c : Cells K H m f cs) (h : m[n]? = some a) (r : Reps K H m f xs vs) : Cells K (upd H a (.lst vs)) m f (cs.set n (.lst xs)) := by
  have ka : a ∈ m := List.mem_of_getElem? h
  have k : Keep H (upd H a (.lst vs)) m m := Keep.cell ka
  refine ⟨by rw [List.length_set]; exact c.len, c.nd, fun b hb e => c.fd b hb (k.dom b e), c.fm, fun j b o h1 h2 => ?_⟩
  by_cases z : j = n
  · subst z
    rw [h] at h1
    cases h1
    have hl : j < cs.length := by
      rw [c.len]
      exact (List.getElem?_eq_some_iff.mp h).1
    rw [List.getElem?_set_self hl] at h2
    cases h2
    exact ⟨vs, upd_same, r.mono k⟩
  · rw [List.getElem?_set_ne (Ne.symm z)] at h2
    have hb : b ≠ a := fun e => by
      subst e
      have h3 := (List.getElem?_eq_some_iff.mp h).1
      have h4 := (List.getElem?_eq_some_iff.mp h1).1
      have e1 : m[n] = b := (List.getElem?_eq_some_iff.mp h).2
      have e2 : m[j] = b := (List.getElem?_eq_some_iff.mp h1).2
      exact z (nodup_at c.nd h1 h)
    have q := c.at_ j b o h1 h2
    cases o with
    | lst ys =>
      obtain ⟨zs, q1, q2⟩ := q
      exact ⟨zs, by rw [upd_ne hb]; exact q1, q2.mono k⟩
    | ins x fs => exact q
end
def rvI (K : PySem.W.Frag) : R2 := fun x y H Q => ∃ (wa wb w : W) (cs : List Ob) (m f : List Addr), Rep K H m f (Mi.fz wa) x ∧ Rep K H m f (Mi.fz wb) y ∧ Cells K H m f cs ∧ Mi.subW wa wb cs = some w ∧ ∀ v, Rep K H m f w v → Q v H
def rvSl (K : PySem.W.Frag) : V → Option Int → Option Int → Hp → VK → Prop := fun x lo hi H Q => ∃ (wa : W) (cs : List Ob) (m f : List Addr), Rep K H m f (Mi.fz wa) x ∧ Cells K H m f cs ∧
  Rq (Mi.sliceW wa lo hi cs) fun w cs' => ∀ v H' m', Keep H H' m m' → Out K H m f H' m' w cs' v → Q v H'
def rvF (K : PySem.W.Frag) (fn : List W → List Ob → R W) : List V → Hp → VK → Prop := fun vs H Q => ∃ (ws : List W) (cs : List Ob) (m f : List Addr), Reps K H m f ws vs ∧ Cells K H m f cs ∧
  Rq (fn ws cs) fun w cs' => ∀ v H' m', Keep H H' m m' → Out K H m f H' m' w cs' v → Q v H'
def rvM (K : PySem.W.Frag) (t : Mi.Mth) : V → List V → Hp → VK → Prop := fun x vs H Q => ∃ (wo : W) (ws : List W) (cs : List Ob) (m f : List Addr), Rep K H m f (Mi.fz wo) x ∧ Reps K H m f ws vs ∧ Cells K H m f cs ∧
  Rq (Mi.meth t wo ws cs) fun w cs' => ∀ v H' m', Keep H H' m m' → Out K H m f H' m' w cs' v → Q v H'
section
variable {X : Cx}
theorem ix_sub : IxR X (rvI X.K) := by
  intro value slice pins s σ H x y v u Q I rx ry ⟨wa, wb, w, cs, m, f, ra, rb, c, h, q⟩ hs
  unfold Mi.subW at h
  split at h
  · rename_i k
    cases rb
    split at h
    · rename_i xs e
      obtain ⟨a, vs, f1, q1, p1⟩ := rep_items c ra e
      subst f1
      obtain ⟨z, z1, z2⟩ := at_of p1 h
      rcases q1 with q1 | q1
      · exact ix_list value slice pins s σ H _ _ v u Q I rx ry ⟨a, vs, k, z, rfl, rfl, q1, z1, q z z2⟩ hs
      · exact ix_tup value slice pins s σ H _ _ v u Q I rx ry ⟨a, vs, k, z, rfl, rfl, q1, z1, q z z2⟩ hs
    · cases h
  · cases h
theorem sl_slice : SlR X (rvSl X.K) := by
  intro pins s σ H x v vl vu lo hi sl Q I rx hs pl pu ⟨wa, cs, m, f, ra, c, h⟩
  unfold Mi.sliceW at h
  split at h
  · rename_i xs
    obtain ⟨a, vs, f1, q1, p1⟩ := SqT.ofRep ra
    subst f1
    unfold Mi.mkTup at h
    split at h
    · refine sl_tupA pins s σ H _ v vl vu lo hi sl Q I rx hs pl pu ⟨a, vs, rfl, q1, fun e => ?_, fun _ p hp => ?_⟩
      · have e2 : Mi.cut xs lo hi = xs := by
          unfold Mi.cut
          rw [bound_eq, bound_eq, p1.length, e.1, e.2, List.drop_zero, Nat.sub_zero, ← p1.length, List.take_length]
        rw [e2] at h
        exact h _ H m Keep.refl (.old ra c)
      · exact h _ _ m (Keep.new hp) (out_tup c hp (cut_of p1 lo hi))
    · exact h.elim
  · rename_i xs
    cases ra with
    | scr h1 _ _ h3 =>
      unfold Mi.mkNew at h
      split at h
      · exact sl_list pins s σ H _ v vl vu lo hi sl Q I rx hs pl pu ⟨_, _, rfl, .inl h1, fun p hp => h _ _ m (Keep.new hp) (out_new c hp (cut_of h3 lo hi))⟩
      · exact h.elim
    | kscr h1 h3 =>
      unfold Mi.mkNew at h
      split at h
      · exact sl_list pins s σ H _ v vl vu lo hi sl Q I rx hs pl pu ⟨_, _, rfl, .inr h1, fun p hp => h _ _ m (Keep.new hp) (out_new c hp (cut_of h3 lo hi))⟩
      · exact h.elim
  · split at h
    · rename_i xs e
      obtain ⟨a, vs, f1, q1, p1⟩ := rep_itemsL c ra e
      subst f1
      unfold Mi.mkNew at h
      split at h
      · exact sl_list pins s σ H _ v vl vu lo hi sl Q I rx hs pl pu ⟨a, vs, rfl, SqL.of q1, fun p hp => h _ _ m (Keep.new hp) (out_new c hp (cut_of p1 lo hi))⟩
      · exact h.elim
    · exact h.elim
/-! ### methods -/
theorem mt_append2 : MtR X "list.append" (rvM X.K .append) := by
  intro pins s σ H x vs v us Q I rx rs ⟨wo, ws, cs, m, f, ro, rw', c, h⟩
  unfold Mi.meth at h
  split at h
  · rename_i n
    split at h
    · rename_i xs e
      cases ro with
      | ref hm =>
        split at h
        · rename_i w e1
          cases rw' with
          | cons r1 r2 =>
            cases r2
            split at h
            · rename_i hz
              obtain ⟨zs, h1, h2⟩ := c.lst hm e
              have hz' : zs.length < sizeLine := by
                rw [← h2.length, sizeLine_eq]
                unfold Mi.lim at hz
                omega
              refine mt_append pins s σ H _ _ v us Q I rx rs ⟨_, zs, _, rfl, rfl, h1, hz', ?_⟩
              exact h _ _ m (Keep.cell (List.mem_of_getElem? hm)) (.old .non (c.set hm (h2.append (.cons r1 .nil))))
            · exact h.elim
        all_goals first | exact h.elim | (rename_i q; cases q)
    · exact h.elim
  · exact h.elim
theorem mt_pop2 : MtR X "list.pop" (fun x vs H Q => rvM X.K .pop x vs H Q ∨ rvM X.K .popAt x vs H Q) := by
  refine MtR.or (r := rvM X.K .pop) (r' := rvM X.K .popAt) ?_ ?_
  · intro pins s σ H x vs v us Q I rx rs ⟨wo, ws, cs, m, f, ro, rw', c, h⟩
    unfold Mi.meth at h
    split at h
    · rename_i n
      split at h
      · rename_i xs e
        cases ro with
        | ref hm =>
          split at h
          · rename_i q
            cases q
          · cases rw'
            split at h
            · rename_i y ey
              obtain ⟨zs, h1, h2⟩ := c.lst hm e
              obtain ⟨z, z1, z2⟩ := h2.get ey
              rw [h2.length] at z1
              have k := Keep.cell (H := H) (o := HO.lst zs.dropLast) (List.mem_of_getElem? hm)
              exact mt_pop pins s σ H _ _ v us Q I rx rs ⟨_, zs, z, rfl, rfl, h1, z1, h z _ m k (.old (z2.mono k) (c.set hm h2.dropLast))⟩
            · exact h.elim
          all_goals first | exact h.elim | (rename_i q; cases q)
      · exact h.elim
    · exact h.elim
  · intro pins s σ H x vs v us Q I rx rs ⟨wo, ws, cs, m, f, ro, rw', c, h⟩
    unfold Mi.meth at h
    split at h
    · rename_i n
      split at h
      · rename_i xs e
        cases ro with
        | ref hm =>
          split at h
          · rename_i q
            cases q
          · rename_i q
            cases q
          · rename_i i q
            cases rw' with
            | cons r1 r2 =>
              cases r2
              cases r1
              split at h
              · rename_i k ek
                split at h
                · rename_i y ey
                  obtain ⟨zs, h1, h2⟩ := c.lst hm e
                  obtain ⟨z, z1, z2⟩ := h2.get ey
                  rw [place_eq, h2.length] at ek
                  obtain ⟨g1, g2, g3, g4⟩ := ixN_seq ek
                  have hl := (I.lstM h1).1
                  have hn := line63
                  have kk := Keep.cell (H := H) (o := HO.lst (zs.eraseIdx k)) (List.mem_of_getElem? hm)
                  exact mt_popAt pins s σ H _ _ v us Q I rx rs ⟨_, zs, _, k, z, rfl, rfl, h1, by omega, by omega, g1, z1, h z _ m kk (.old (z2.mono kk) (c.set hm (h2.eraseIdx k)))⟩
                · exact h.elim
              · exact h.elim
          all_goals first | exact h.elim | (rename_i q; cases q)
      · exact h.elim
    · exact h.elim
theorem mt_extend2 : MtR X "list.extend" (rvM X.K .extend) := by
  intro pins s σ H x vs v us Q I rx rs ⟨wo, ws, cs, m, f, ro, rw', c, h⟩
  unfold Mi.meth at h
  split at h
  · rename_i n
    split at h
    · rename_i xs e
      cases ro with
      | ref hm =>
        split at h
        · rename_i q
          cases q
        · rename_i q
          cases q
        · rename_i q
          cases q
        · rename_i wa q
          cases rw' with
          | cons r1 r2 =>
            cases r2
            split at h
            · rename_i ys ey
              split at h
              · rename_i hz
                obtain ⟨zs, h1, h2⟩ := c.lst hm e
                obtain ⟨b, us', f1, f2, f3⟩ := rep_itemsL c r1.fz ey
                subst f1
                refine mt_extend pins s σ H _ _ v us Q I rx rs ⟨_, b, zs, us', rfl, rfl, h1, f2, ?_, ?_⟩
                · rw [← h2.length, ← f3.length]
                  exact sl_le hz
                · exact h _ _ m (Keep.cell (List.mem_of_getElem? hm)) (.old .non (c.set hm (h2.append f3)))
              · exact h.elim
            · exact h.elim
        all_goals first | exact h.elim | (rename_i q; cases q)
    · exact h.elim
  · exact h.elim
/-! ### o[i] = v -/
def rvS (K : PySem.W.Frag) : V → V → V → Hp → (Hp → Prop) → Prop := fun x y z H Q => ∃ (wo wi wv : W) (cs cs' : List Ob) (m f : List Addr), Rep K H m f (Mi.fz wo) x ∧ Rep K H m f (Mi.fz wi) y ∧ Rep K H m f (Mi.fz wv) z ∧ Cells K H m f cs ∧
  Mi.setIdx wo wi (Mi.fz wv) cs = some cs' ∧ ∀ H', Keep H H' m m → Cells K H' m f cs' → Q H'
theorem set_idx : PSet X (rvS X.K) := by
  intro pins s σ H o i v ov iv u Q I ro ri rv ⟨wo, wi, wv, cs, cs', m, f, r1, r2, r3, c, h, q⟩
  unfold Mi.setIdx at h
  split at h
  · rename_i n k
    cases r2
    cases r1 with
    | ref hm =>
      split at h
      · rename_i xs e
        split at h
        · rename_i j ej
          cases h
          obtain ⟨zs, h1, h2⟩ := c.lst hm e
          rw [place_eq, h2.length] at ej
          exact set_list pins s σ H _ _ _ ov iv u Q I ro ri rv ⟨_, zs, k, j, rfl, rfl, h1, ej, q _ (Keep.cell (List.mem_of_getElem? hm)) (c.set hm (h2.set r3 j))⟩
        · cases h
      · cases h
  · cases h
/-! ### built-in functions -/
theorem one_rep {K : PySem.W.Frag} {H : Hp} {m f : List Addr} {w : W} {vs : List V} (r : Reps K H m f [w] vs) : ∃ v, vs = [v] ∧ Rep K H m f w v := by
  cases r with
  | cons r1 r2 =>
    cases r2
    exact ⟨_, rfl, r1⟩
theorem bl_of {K : PySem.W.Frag} {H : Hp} {m f : List Addr} : ∀ {xs : List W} {vs : List V} {bs : List Bool}, Reps K H m f xs vs → Mi.blsW xs = some bs → vs = bs.map V.bl
  | _, _, _, .nil, e => by
    cases e
    rfl
  | _, _, _, .cons (w := w) r t, e => by
    cases r <;> first | cases e | skip
    simp only [Mi.blsW, Option.map_eq_some_iff] at e
    obtain ⟨ms, e1, e2⟩ := e
    subst e2
    rw [bl_of t e1] <;> rfl
theorem maxI_mem : ∀ (xs : List Int) (a : Int), Mi.maxI a xs ∈ a :: xs ∧ ∀ y ∈ a :: xs, y ≤ Mi.maxI a xs
  | [], a => ⟨by simp [Mi.maxI], fun y hy => by simp at hy; subst hy; simp [Mi.maxI]⟩
  | x :: xs, a => by
    unfold Mi.maxI
    have hz : (if x > a then x else a) = x ∨ (if x > a then x else a) = a := by split <;> simp
    have hl : x ≤ (if x > a then x else a) ∧ a ≤ (if x > a then x else a) := by split <;> omega
    generalize (if x > a then x else a) = z at hz hl
    obtain ⟨h1, h2⟩ := maxI_mem xs z
    have g := h2 z List.mem_cons_self
    refine ⟨?_, fun y hy => ?_⟩
    · rcases List.mem_cons.mp h1 with e | e
      · rw [e]
        rcases hz with hz | hz <;> rw [hz] <;> simp
      · exact List.mem_cons_of_mem _ (List.mem_cons_of_mem _ e)
    · rcases List.mem_cons.mp hy with e | hy
      · subst e
        omega
      · rcases List.mem_cons.mp hy with e | hy
        · subst e
          omega
        · exact h2 y (List.mem_cons_of_mem _ hy)
theorem minI_mem : ∀ (xs : List Int) (a : Int), Mi.minI a xs ∈ a :: xs ∧ ∀ y ∈ a :: xs, Mi.minI a xs ≤ y
  | [], a => ⟨by simp [Mi.minI], fun y hy => by simp at hy; subst hy; simp [Mi.minI]⟩
  | x :: xs, a => by
    unfold Mi.minI
    have hz : (if x < a then x else a) = x ∨ (if x < a then x else a) = a := by split <;> simp
    have hl : (if x < a then x else a) ≤ x ∧ (if x < a then x else a) ≤ a := by split <;> omega
    generalize (if x < a then x else a) = z at hz hl
    obtain ⟨h1, h2⟩ := minI_mem xs z
    have g := h2 z List.mem_cons_self
    refine ⟨?_, fun y hy => ?_⟩
    · rcases List.mem_cons.mp h1 with e | e
      · rw [e]
        rcases hz with hz | hz <;> rw [hz] <;> simp
      · exact List.mem_cons_of_mem _ (List.mem_cons_of_mem _ e)
    · rcases List.mem_cons.mp hy with e | hy
      · subst e
        omega
      · rcases List.mem_cons.mp hy with e | hy
        · subst e
          omega
        · exact h2 y (List.mem_cons_of_mem _ hy)
theorem insI_perm (x : Int) : ∀ ys : List Int, (Mi.insI x ys).Perm (x :: ys)
  | [] => List.Perm.refl _
  | y :: ys => by
    unfold Mi.insI
    split
    · exact List.Perm.refl _
    · exact ((insI_perm x ys).cons y).trans (List.Perm.swap x y ys)
theorem sortI_perm : ∀ xs : List Int, (Mi.sortI xs).Perm xs
  | [] => List.Perm.refl _
  | x :: xs => (insI_perm x (Mi.sortI xs)).trans ((sortI_perm xs).cons x)
theorem insI_srt (x : Int) : ∀ ys : List Int, ys.Pairwise (· ≤ ·) → (Mi.insI x ys).Pairwise (· ≤ ·)
  | [], _ => by simp [Mi.insI]
  | y :: ys, h => by
    unfold Mi.insI
    split
    · rename_i hx
      refine List.pairwise_cons.mpr ⟨fun z hz => ?_, h⟩
      rcases List.mem_cons.mp hz with e | hz
      · omega
      · have := List.rel_of_pairwise_cons h hz
        omega
    · rename_i hx
      obtain ⟨h1, h2⟩ := List.pairwise_cons.mp h
      refine List.pairwise_cons.mpr ⟨fun z hz => ?_, insI_srt x ys h2⟩
      rcases List.mem_cons.mp ((insI_perm x ys).mem_iff.mp hz) with e | hz
      · omega
      · exact h1 z hz
theorem sortI_srt : ∀ xs : List Int, (Mi.sortI xs).Pairwise (· ≤ ·)
  | [] => List.Pairwise.nil
  | x :: xs => insI_srt x _ (sortI_srt xs)
theorem perm_srt : ∀ {xs ys : List Int}, xs.Perm ys → xs.Pairwise (· ≤ ·) → ys.Pairwise (· ≤ ·) → xs = ys := fun {xs ys} p h1 h2 =>
  List.Perm.eq_of_pairwise (le := (· ≤ ·)) (fun a b _ _ h3 h4 => by omega) h1 h2 p
theorem Reps.ints {K : PySem.W.Frag} {H : Hp} {m f : List Addr} : ∀ ns : List Int, Reps K H m f (ns.map .int) (ns.map V.int)
  | [] => .nil
  | n :: ns => .cons (.int n) (Reps.ints ns)
theorem call_len2 : CallR X (.builtin "len") (rvF X.K (Mi.blt .len)) := by
  intro pins s σ H vs us Q I r ⟨ws, cs, m, f, rs, c, h⟩
  unfold Mi.blt at h
  split at h
  all_goals (rename_i q; try cases q)
  · exact h.elim
  · obtain ⟨v, e, rv⟩ := one_rep rs
    subst e
    split at h
    · rename_i xs e
      obtain ⟨a, zs, f1, q1, p1⟩ := rep_items c rv.fz e
      subst f1
      refine call_len_seq pins s σ H _ us Q I r ⟨a, zs, rfl, q1, ?_⟩
      rw [← p1.length]
      exact h _ H m Keep.refl (.old (.int _) c)
    · exact h.elim
  all_goals exact h.elim
theorem call_abs2 : CallR X (.builtin "abs") (rvF X.K (Mi.blt .abs)) := by
  intro pins s σ H vs us Q I r ⟨ws, cs, m, f, rs, c, h⟩
  unfold Mi.blt at h
  split at h
  all_goals (rename_i q; try cases q)
  · obtain ⟨v, e, rv⟩ := one_rep rs
    subst e
    cases rv
    exact call_abs pins s σ H _ us Q I r ⟨_, rfl, h _ H m Keep.refl (.old (.int _) c)⟩
  all_goals exact h.elim
theorem call_int2 : CallR X (.type "int") (rvF X.K (Mi.blt .int)) := by
  intro pins s σ H vs us Q I r ⟨ws, cs, m, f, rs, c, h⟩
  unfold Mi.blt at h
  split at h
  all_goals (rename_i q; try cases q)
  · obtain ⟨v, e, rv⟩ := one_rep rs
    subst e
    cases rv
    exact call_int1 pins s σ H _ us Q I r (.inl ⟨_, rfl, h _ H m Keep.refl (.old (.int _) c)⟩)
  · obtain ⟨v, e, rv⟩ := one_rep rs
    subst e
    cases rv
    exact call_int1 pins s σ H _ us Q I r (.inr ⟨_, rfl, h _ H m Keep.refl (.old (.int _) c)⟩)
  all_goals exact h.elim
theorem itemsI {K : PySem.W.Frag} {H : Hp} {m f : List Addr} {cs : List Ob} {a : W} {v : V} {ns : List Int} (c : Cells K H m f cs) (rv : Rep K H m f a v) (e : (Mi.itemsL cs a).bind Mi.intsW = some ns) : ∃ p, v = .ref p ∧ H p = some (.lst (ns.map V.int)) := by
  cases e1 : Mi.itemsL cs a with
  | none =>
    rw [e1] at e
    cases e
  | some xs =>
    rw [e1] at e
    obtain ⟨p, zs, f1, q1, p1⟩ := rep_itemsL c rv.fz e1
    subst f1
    rw [intsW_of p1 e] at q1
    exact ⟨p, rfl, q1⟩
theorem call_max (hc : X.calm = true) : CallR X (.builtin "max") (fun vs H Q => rvF X.K (Mi.blt .max2) vs H Q ∨ rvF X.K (Mi.blt .max1) vs H Q) := by
  refine CallR.or (r := rvF X.K (Mi.blt .max2)) (r' := rvF X.K (Mi.blt .max1)) ?_ ?_
  · intro pins s σ H vs us Q I r ⟨ws, cs, m, f, rs, c, h⟩
    unfold Mi.blt at h
    split at h
    all_goals (rename_i q; try cases q)
    · rename_i i j
      cases rs with
      | cons r1 r2 =>
        obtain ⟨v, e, rv⟩ := one_rep r2
        subst e
        cases r1
        cases rv
        exact call_max2 hc pins s σ H _ us Q I r ⟨i, j, rfl, h _ H m Keep.refl (.old (.int _) c)⟩
    all_goals exact h.elim
  · intro pins s σ H vs us Q I r ⟨ws, cs, m, f, rs, c, h⟩
    unfold Mi.blt at h
    split at h
    all_goals (rename_i q; try cases q)
    · obtain ⟨v, e, rv⟩ := one_rep rs
      subst e
      split at h
      · rename_i x xs e
        obtain ⟨p, f1, q1⟩ := itemsI c rv e
        subst f1
        refine cr_max hc pins s σ H _ us Q I r ⟨p, x :: xs, rfl, SqL.of q1, Nat.succ_pos _, fun z z1 z2 => ?_⟩
        obtain ⟨g1, g2⟩ := maxI_mem xs x
        have e2 : z = Mi.maxI x xs := by
          have := g2 z z1
          have := z2 _ g1
          omega
        subst e2
        exact h _ H m Keep.refl (.old (.int _) c)
      · exact h.elim
    all_goals exact h.elim
theorem call_min (hc : X.calm = true) : CallR X (.builtin "min") (fun vs H Q => rvF X.K (Mi.blt .min2) vs H Q ∨ rvF X.K (Mi.blt .min1) vs H Q) := by
  refine CallR.or (r := rvF X.K (Mi.blt .min2)) (r' := rvF X.K (Mi.blt .min1)) ?_ ?_
  · intro pins s σ H vs us Q I r ⟨ws, cs, m, f, rs, c, h⟩
    unfold Mi.blt at h
    split at h
    all_goals (rename_i q; try cases q)
    · rename_i i j
      cases rs with
      | cons r1 r2 =>
        obtain ⟨v, e, rv⟩ := one_rep r2
        subst e
        cases r1
        cases rv
        exact call_min2 hc pins s σ H _ us Q I r ⟨i, j, rfl, h _ H m Keep.refl (.old (.int _) c)⟩
    all_goals exact h.elim
  · intro pins s σ H vs us Q I r ⟨ws, cs, m, f, rs, c, h⟩
    unfold Mi.blt at h
    split at h
    all_goals (rename_i q; try cases q)
    · obtain ⟨v, e, rv⟩ := one_rep rs
      subst e
      split at h
      · rename_i x xs e
        obtain ⟨p, f1, q1⟩ := itemsI c rv e
        subst f1
        refine cr_min hc pins s σ H _ us Q I r ⟨p, x :: xs, rfl, SqL.of q1, Nat.succ_pos _, fun z z1 z2 => ?_⟩
        obtain ⟨g1, g2⟩ := minI_mem xs x
        have e2 : z = Mi.minI x xs := by
          have := g2 z z1
          have := z2 _ g1
          omega
        subst e2
        exact h _ H m Keep.refl (.old (.int _) c)
      · exact h.elim
    all_goals exact h.elim
theorem call_sum2 (hc : X.calm = true) : CallR X (.builtin "sum") (rvF X.K (Mi.blt .sum)) := by
  intro pins s σ H vs us Q I r ⟨ws, cs, m, f, rs, c, h⟩
  unfold Mi.blt at h
  split at h
  all_goals (rename_i q; try cases q)
  · obtain ⟨v, e, rv⟩ := one_rep rs
    subst e
    split at h
    · rename_i xs e
      obtain ⟨p, f1, q1⟩ := itemsI c rv e
      subst f1
      exact cr_sum hc pins s σ H _ us Q I r ⟨p, xs, rfl, SqL.of q1, h _ H m Keep.refl (.old (.int _) c)⟩
    · exact h.elim
  all_goals exact h.elim
theorem itemsB {K : PySem.W.Frag} {H : Hp} {m f : List Addr} {cs : List Ob} {a : W} {v : V} {bs : List Bool} (c : Cells K H m f cs) (rv : Rep K H m f a v) (e : (Mi.itemsL cs a).bind Mi.blsW = some bs) : ∃ p, v = .ref p ∧ H p = some (.lst (bs.map V.bl)) := by
  cases e1 : Mi.itemsL cs a with
  | none =>
    rw [e1] at e
    cases e
  | some xs =>
    rw [e1] at e
    obtain ⟨p, zs, f1, q1, p1⟩ := rep_itemsL c rv.fz e1
    subst f1
    rw [bl_of p1 e] at q1
    exact ⟨p, rfl, q1⟩
theorem call_any2 (hc : X.calm = true) : CallR X (.builtin "any") (rvF X.K (Mi.blt .any)) := by
  intro pins s σ H vs us Q I r ⟨ws, cs, m, f, rs, c, h⟩
  unfold Mi.blt at h
  split at h
  all_goals (rename_i q; try cases q)
  · obtain ⟨v, e, rv⟩ := one_rep rs
    subst e
    split at h
    · rename_i xs e
      obtain ⟨p, f1, q1⟩ := itemsB c rv e
      subst f1
      exact cr_any hc pins s σ H _ us Q I r ⟨p, xs, rfl, SqL.of q1, h _ H m Keep.refl (.old (.bl _) c)⟩
    · exact h.elim
  all_goals exact h.elim
theorem call_all2 (hc : X.calm = true) : CallR X (.builtin "all") (rvF X.K (Mi.blt .all)) := by
  intro pins s σ H vs us Q I r ⟨ws, cs, m, f, rs, c, h⟩
  unfold Mi.blt at h
  split at h
  all_goals (rename_i q; try cases q)
  · obtain ⟨v, e, rv⟩ := one_rep rs
    subst e
    split at h
    · rename_i xs e
      obtain ⟨p, f1, q1⟩ := itemsB c rv e
      subst f1
      exact cr_all hc pins s σ H _ us Q I r ⟨p, xs, rfl, SqL.of q1, h _ H m Keep.refl (.old (.bl _) c)⟩
    · exact h.elim
  all_goals exact h.elim
/-- what sorted does with a tuple: its items are laid into a list first -/
theorem tup_collected {prog : Program} {w : World} {A : Around} {E : Value → Shared → Prop} {st : Shared} {t : Addr} {ys : List Value} {Q : List Value → Shared → Prop} (ht : IsTup st.heap t ys.toArray) (hz : ys.length ≤ sizeLine)
    (k : Q ys { st with heap := (st.heap.push (seqObj "list" #[] 0)).update st.heap.objs.size (Obj.mapSeq (· ++ ys.toArray)) }) : wpAny (model prog w) A (collect (.ref t)) Q E st := by
  obtain ⟨o, g1, g2, n, g3⟩ := ht
  have g1' : (st.heap.push (seqObj "list" #[] 0)).get? t = some o := Heap.get?_push_of_some _ g1
  unfold collect
  refine wpAny_bind (wpAny_runValue (codeAny_builtin PyProof.Rows.entry_proto_collect' ?_))
  show wpAny _ _ (do
    again (.builtin "list.__iadd__" ⟨[← newList [], .ref t], []⟩)) _ _ st
  refine wpAny_bind (wpAny_newList
    (wpAny_pure ⟨Code.quiet_builtin _ (by decide +kernel), codeAny_builtin PyProof.Rows.entry_list_iadd' ?_⟩))
  show wpAny _ _ (Builtin.List.listExtendWith (.ref st.heap.objs.size) (.ref t) (.ref st.heap.objs.size)) _ _
    { st with heap := st.heap.push (seqObj "list" #[] 0) }
  unfold Builtin.List.listExtendWith
  refine wpAny_bind (wpAny_typeOf (T := "tuple") ⟨o, g1', g2⟩ ?_)
  rw [if_pos (by simp)]
  refine wpAny_bind (listItems_at g1' g3 ?_)
  refine wpAny_bind (listItems_at (n := 0) (xs := #[]) (Heap.get?_push_size _ rfl) rfl ?_)
  rw [if_neg (by simp)]
  refine wpAny_bind (listUpdate_at (n := 0) (xs := #[]) (Heap.get?_push_size _ rfl) rfl ?_ (Nat.zero_le _)
    (by show (#[] ++ ys.toArray).size ≤ sizeLine + 1
        simp only [Array.size_append, List.size_toArray, List.length_nil]
        omega))
  refine wpAny_pure ?_
  refine wpAny_bind (wpAny_load (get?_update_seq (Heap.get?_push_size _ rfl) _) ?_)
  show wpAny _ _ (pure ((#[] : Array Value) ++ ys.toArray).toList) Q E _
  have e : ((#[] : Array Value) ++ ys.toArray).toList = ys := by simp
  rw [e]
  exact wpAny_pure k
theorem tup_sorted {prog : Program} {w : World} {A : Around} {E : Value → Shared → Prop} {st : Shared} {t : Addr} {ys : List Value} {ns : List Int} {Q : Value → Shared → Prop} (ht : IsTup st.heap t ys.toArray) (hi : IntsAre ys ns) (hz : ys.length ≤ sizeLine)
    (k : ∀ out : List Value, SrtO.Srtd SrtO.ltIv out → SrtO.Stb SrtO.ltIv out ys → Q (.ref (st.heap.objs.size + 1)) { st with heap := sortedAll st.heap ys out.toArray }) : wpAny (model prog w) A (call (.builtin "sorted") [.ref t]) Q E st := by
  refine Calls.call_function_entry PyProof.Rows.kind_sorted PyProof.Rows.plain_sorted PyProof.Rows.entry_sorted (PyProof.Rows.args_sorted1 _) ?_
  unfold Builtin.«sorted»
  refine wpAny_bind (m := checkCount "sorted" 1 1 _) (wpAny_pure ?_)
  refine wpAny_bind (tup_collected ht hz ?_)
  refine wpAny_bind (wpAny_newList ?_ hz)
  have z1 : ((st.heap.push (seqObj "list" #[] 0)).update st.heap.objs.size (Obj.mapSeq (· ++ ys.toArray))).objs.size = st.heap.objs.size + 1 := by
    rw [Heap.size_update, size_push'] <;> rfl
  have z2 := Heap.get?_push_size ((st.heap.push (seqObj "list" #[] 0)).update st.heap.objs.size (Obj.mapSeq (· ++ ys.toArray))) (o := seqObj "list" ys.toArray 0) rfl
  rw [z1] at z2
  show wpAny _ _ _ _ _ { st with heap := ((st.heap.push (seqObj "list" #[] 0)).update st.heap.objs.size (Obj.mapSeq (· ++ ys.toArray))).push (seqObj "list" ys.toArray 0) }
  rw [z1]
  refine wpAny_bind (wpAny_holding (wpAny_call_entry PyProof.Rows.slot_list_sort ⟨_, z2, rfl⟩ PyProof.Rows.entry_list_sort
    (SrtO.list_sort_ord SrtO.swo_int z2 hz (fun h2 => SrtO.ints_sortable hi h2) fun out h1 h2 => ⟨_, rfl, ?_⟩) (PyProof.Rows.args_list_sort _)))
  exact wpAny_pure ⟨_, rfl, k out h1 h2⟩
theorem cr_sortedTup : CallR X (.builtin "sorted") (fun vs H Q => ∃ (a : Addr) (ns : List Int), vs = [V.ref a] ∧ SqT X.K H a (ns.map V.int) ∧ ∀ p, H p = none → Q (.ref p) (upd H p (.lst ((Mi.sortI ns).map V.int)))) := by
  intro pins s σ H vs us Q I r ⟨a, ns, ev, hs, q⟩
  subst ev
  obtain ⟨its, rv, hl, hz⟩ := I.tuple hs
  obtain ⟨u, e, ru⟩ := vals1 r
  subst e
  cases ru
  have hi := rv.ints
  have hz' : its.length ≤ sizeLine := by
    rw [← rv.length]
    exact hz
  refine tup_sorted hl hi hz' fun out h1 h2 => ?_
  obtain ⟨k1, k2, k3⟩ := SrtO.ints_out hi h1 h2
  have e3 : out.map SrtO.iv = Mi.sortI ns := perm_srt (k2.trans (sortI_perm ns).symm) k3 (sortI_srt ns)
  rw [e3] at k1
  obtain ⟨ep, he⟩ := PyProof.Rows.sortedAll_at s.heap its out.toArray
  have hlen : ((Mi.sortI ns).map V.int).length ≤ sizeLine := by
    rw [List.length_map, (sortI_perm ns).length_eq]
    rw [List.length_map] at hz
    exact hz
  exact ⟨.ref (s.heap.objs.size + 1), upd H (s.heap.objs.size + 1) (.lst ((Mi.sortI ns).map V.int)),
    I.laid (t' := s.toks) (fun _ _ => PyProof.Rows.sortedAll_old) (Nat.le_succ _) ⟨hlen, out, ep, vals_of_ints k1, he⟩, rfl, q _ (I.hok.fresh (Nat.le_succ _))⟩
theorem call_sorted2 : CallR X (.builtin "sorted") (rvF X.K (Mi.blt .sorted)) := by
  intro pins s σ H vs us Q I r ⟨ws, cs, m, f, rs, c, h⟩
  unfold Mi.blt at h
  split at h
  all_goals (rename_i q; try cases q)
  · obtain ⟨v, e, rv⟩ := one_rep rs
    subst e
    rename_i a
    split at h
    · rename_i xs e
      cases e1 : Mi.items cs a with
      | none =>
        rw [e1] at e
        cases e
      | some zs =>
        rw [e1] at e
        obtain ⟨p, vs, f1, q1, p1⟩ := rep_items c rv.fz e1
        subst f1
        rw [intsW_of p1 e] at q1
        unfold Mi.mkNew at h
        split at h
        · rcases q1 with q1 | q1
          · refine cr_sortedI pins s σ H _ us Q I r ⟨p, xs, rfl, q1, fun ns' p' g1 g2 hp => ?_⟩
            have e2 : ns' = Mi.sortI xs := perm_srt (g1.trans (sortI_perm xs).symm) g2 (sortI_srt xs)
            subst e2
            exact h _ _ m (Keep.new hp) (out_new c hp (Reps.ints _))
          · exact cr_sortedTup pins s σ H _ us Q I r ⟨p, xs, rfl, q1, fun p' hp => h _ _ m (Keep.new hp) (out_new c hp (Reps.ints _))⟩
        · exact h.elim
    · exact h.elim
  all_goals exact h.elim
theorem call_list2 : CallR X (.type "list") (rvF X.K (Mi.blt .list)) := by
  intro pins s σ H vs us Q I r ⟨ws, cs, m, f, rs, c, h⟩
  unfold Mi.blt at h
  split at h
  all_goals (rename_i q; try cases q)
  · obtain ⟨v, e, rv⟩ := one_rep rs
    subst e
    split at h
    · rename_i xs e
      obtain ⟨a, zs, f1, q1, p1⟩ := rep_items c rv.fz e
      subst f1
      unfold Mi.mkNew at h
      split at h
      · exact call_list_of pins s σ H _ us Q I r ⟨a, zs, rfl, q1, fun l hl => h _ _ m (Keep.new hl) (out_new c hl p1)⟩
      · exact h.elim
    · exact h.elim
  all_goals exact h.elim
theorem call_tuple2 : CallR X (.type "tuple") (rvF X.K (Mi.blt .tuple)) := by
  intro pins s σ H vs us Q I r ⟨ws, cs, m, f, rs, c, h⟩
  unfold Mi.blt at h
  split at h
  all_goals (rename_i q; try cases q)
  · obtain ⟨v, e, rv⟩ := one_rep rs
    subst e
    rename_i a
    split at h
    · rename_i xs e
      unfold Mi.mkTup at h
      split at h
      · cases a with
        | tup ys =>
          cases e
          obtain ⟨p, zs, f1, q1, p1⟩ := SqT.ofRep rv
          subst f1
          exact call_tuple_of pins s σ H _ us Q I r ⟨p, zs, rfl, .inr ⟨q1, h _ H m Keep.refl (.old rv c)⟩⟩
        | scr ys =>
          cases e
          cases rv with
          | scr h1 _ _ h3 => exact call_tuple_of pins s σ H _ us Q I r ⟨_, _, rfl, .inl ⟨.inl h1, fun l hl => h _ _ m (Keep.new hl) (out_tup c hl h3)⟩⟩
          | kscr h1 h3 => exact call_tuple_of pins s σ H _ us Q I r ⟨_, _, rfl, .inl ⟨.inr h1, fun l hl => h _ _ m (Keep.new hl) (out_tup c hl h3)⟩⟩
        | lst ys =>
          obtain ⟨p, zs, f1, q1, p1⟩ := rep_itemsL (w := .lst ys) c rv.fz e
          subst f1
          exact call_tuple_of pins s σ H _ us Q I r ⟨p, zs, rfl, .inl ⟨SqL.of q1, fun l hl => h _ _ m (Keep.new hl) (out_tup c hl p1)⟩⟩
        | new ys =>
          obtain ⟨p, zs, f1, q1, p1⟩ := rep_itemsL (w := .new ys) c rv.fz e
          subst f1
          exact call_tuple_of pins s σ H _ us Q I r ⟨p, zs, rfl, .inl ⟨SqL.of q1, fun l hl => h _ _ m (Keep.new hl) (out_tup c hl p1)⟩⟩
        | ref n =>
          obtain ⟨p, zs, f1, q1, p1⟩ := rep_itemsL (w := .ref n) c rv.fz e
          subst f1
          exact call_tuple_of pins s σ H _ us Q I r ⟨p, zs, rfl, .inl ⟨SqL.of q1, fun l hl => h _ _ m (Keep.new hl) (out_tup c hl p1)⟩⟩
        | _ => cases e
      · exact h.elim
    · exact h.elim
  all_goals exact h.elim
/-! ### isinstance -/
def tyOf : Mi.Ty → String
  | .int => "int" | .bool => "bool" | .str => "str" | .list => "list" | .tuple => "tuple"
def rvIs (K : PySem.W.Frag) (t : Mi.Ty) : List V → Hp → VK → Prop := fun vs H Q => ∃ (w : W) (x : V) (cs : List Ob) (m f : List Addr) (k : Bool), vs = [x, .ty (tyOf t)] ∧ Rep K H m f (Mi.fz w) x ∧ Cells K H m f cs ∧ Mi.isiW t w cs = some k ∧ Q (.bl k) H
theorem call_isi2 (t : Mi.Ty) : CallR X (.builtin "isinstance") (rvIs X.K t) := by
  intro pins s σ H vs us Q I r ⟨w, x, cs, m, f, k, ev, rw', c, h, q⟩
  subst ev
  have go : ∀ (T : String) (b : Bool), TyX X.K H x (.type T) → kitB T (tyOf t) = some b → b = k → wpAny (model X.prog X.w) X.A (call (.builtin "isinstance") us) (EP X pins σ Q) X.xe s := fun T b h1 h2 h3 => by
    subst h3
    exact call_isi pins s σ H _ us Q I r ⟨x, .ty (tyOf t), .type T, .type (tyOf t), b, rfl, .ty _, h1, kit_ty h2, q⟩
  have lists : ∀ ys, Mi.itemsL cs w = some ys → TyX X.K H x (.type "list") := fun ys e => by
    obtain ⟨a, zs, f1, q1, _⟩ := rep_itemsL c rw' e
    subst f1
    exact .base (.lst q1)
  have tups : ∀ ys, w = .tup ys → TyX X.K H x (.type "tuple") := fun ys e => by
    subst e
    cases rw' with
    | tup h1 _ _ _ =>
      rcases h1 with h1 | ⟨o, h1⟩
      · exact .base (.tup h1)
      · exact .fTuple h1
    | ktup h1 _ =>
      obtain ⟨o, its, n, k1, k2, _⟩ := h1
      exact .kTuple k1 k2
  cases w with
  | non =>
    cases rw'
    cases t <;> cases h <;> exact go "NoneType" _ (.base .non) (by decide +kernel) rfl
  | bl b =>
    cases rw'
    cases t <;> cases h <;> exact go "bool" _ (.base (.bl _)) (by decide +kernel) rfl
  | int b =>
    cases rw'
    cases t <;> cases h <;> exact go "int" _ (.base (.int _)) (by decide +kernel) rfl
  | str b =>
    cases rw'
    cases t <;> cases h <;> exact go "str" _ (.base (.str _)) (by decide +kernel) rfl
  | tup ys => cases t <;> cases h <;> exact go "tuple" _ (tups ys rfl) (by decide +kernel) rfl
  | scr ys => cases t <;> cases h
  | lst ys => cases t <;> cases h <;> exact go "list" _ (lists ys rfl) (by decide +kernel) rfl
  | new ys => cases t <;> cases h <;> exact go "list" _ (lists ys rfl) (by decide +kernel) rfl
  | ref n =>
    cases e : Mi.cellL cs n with
    | none => cases t <;> simp [Mi.isiW, Mi.itemsL, e] at h
    | some ys => cases t <;> (simp [Mi.isiW, Mi.itemsL, e] at h; subst h) <;> exact go "list" _ (lists ys e) (by decide +kernel) rfl
end
end So
end S_Vals2

section S_Exps
set_option Elab.async false
set_option linter.all false
set_option maxRecDepth 100000
set_option maxHeartbeats 4000000
/-! Exps: expressions do what the evaluator says. -/
namespace So
open PySem PySem.Spec PyProof.Rows L2
open Mi (W Ob Xn R Orc)

/-- an answer, what is wanted of an exception, what is wanted of a value -/
def Rw {α : Type} (z : Xn → List Ob → Prop) (r : R α) (q : α → List Ob → Prop) : Prop :=
  match r with
  | .ok a cs => q a cs
  | .exn x cs => z x cs
  | .bad => False
theorem Rw.bind {α β : Type} {z : Xn → List Ob → Prop} {r : R α} {g : α → List Ob → R β} {q : β → List Ob → Prop} (h : Rw z (r.bind g) q) : Rw z r fun a cs => Rw z (g a cs) q := by
  cases r <;> exact h
theorem Rw.imp {α : Type} {z z' : Xn → List Ob → Prop} {r : R α} {q q' : α → List Ob → Prop} (h : Rw z r q) (hz : ∀ x cs, z x cs → z' x cs) (hq : ∀ a cs, q a cs → q' a cs) : Rw z' r q' := by
  cases r with
  | ok a cs => exact hq a cs h
  | exn x cs => exact hz x cs h
  | bad => exact h
theorem Rw.imp_bind {α β : Type} {z : Xn → List Ob → Prop} {r : R α} {g : α → List Ob → R β} {q : α → List Ob → Prop} {q2 : β → List Ob → Prop} (h : Rw z r q) (k : ∀ a cs, q a cs → Rw z (g a cs) q2) : Rw z (r.bind g) q2 := by
  cases r with
  | ok a cs => exact k a cs h
  | exn x cs => exact h
  | bad => exact h
theorem Rw.rq {α : Type} {z : Xn → List Ob → Prop} {r : R α} {q : α → List Ob → Prop} (h : Rw z r q) : Rq r q := by
  cases r with
  | ok a cs => exact h
  | exn x cs => trivial
  | bad => exact h
theorem Rw.ofO {α : Type} {z : Xn → List Ob → Prop} {o : Option α} {cs : List Ob} {q : α → List Ob → Prop} (h : Rw z (Mi.ofO o cs) q) : ∃ a, o = some a ∧ q a cs := by
  cases o with
  | none => exact h.elim
  | some a => exact ⟨a, rfl, h⟩

/-- an exception of the class at C with its own dict, its fields -/
def XRep (K : PySem.W.Frag) (CA : Nat → Addr) (H : Hp) (m f : List Addr) (x : Xn) (cls : Value) (d : Option Addr) : Prop :=
  cls = .ref (CA x.cls) ∧ ∃ dd vs, d = some dd ∧ H dd = some (.xd ((x.fs.map (·.1)).zip vs)) ∧ Reps K H m f (x.fs.map (·.2)) vs
/-- what is wanted of an exception, told by the evaluator -/
def Zs (K : PySem.W.Frag) (CA : Nat → Addr) (E : XK) (H : Hp) (m f : List Addr) (x : Xn) (cs : List Ob) : Prop :=
  ∀ cls d H' m', Keep H H' m m' → Cells K H' m' f cs → XRep K CA H' m' f x cls d → E cls d H'
/-- what is wanted of a value, told by the evaluator -/
def Ps (K : PySem.W.Frag) (H : Hp) (m f : List Addr) (Q : VK) (w : W) (cs : List Ob) : Prop :=
  ∀ v H' m', Keep H H' m m' → Out K H m f H' m' w cs v → Q v H'
section
variable {K : PySem.W.Frag} {CA : Nat → Addr} {E : XK} {H H1 : Hp} {m m1 f : List Addr} {Q : VK}
theorem Zs.mono (k : Keep H H1 m m1) {x : Xn} {cs : List Ob} (h : Zs K CA E H m f x cs) : Zs K CA E H1 m1 f x cs := fun cls d H' m' k' => h cls d H' m' (k.trans k')
theorem Ps.mono (k : Keep H H1 m m1) {w : W} {cs : List Ob} (h : Ps K H m f Q w cs) : Ps K H1 m1 f Q w cs := fun v H' m' k' o => h v H' m' (k.trans k') (o.back k)
end
/-- the reading of an expression: what the evaluator answers -/
def tE (O : Orc) (K : PySem.W.Frag) (CA : Nat → Addr) (Wx : WX) (e : Mi.Ex) : TE := fun σ H Q => ∃ (ρ : ME) (cs : List Ob) (m f : List Addr), EnvR K H m f ρ σ ∧ Cells K H m f cs ∧
  Rw (Zs K CA (fun cls d H => Wx cls d σ H) H m f) (Mi.ev O ρ e cs) (Ps K H m f Q)
/-- of a list of arguments -/
def tAs (O : Orc) (K : PySem.W.Frag) (CA : Nat → Addr) (Wx : WX) (es : Mi.Exs) : TA := fun σ H Q => ∃ (ρ : ME) (cs : List Ob) (m f : List Addr), EnvR K H m f ρ σ ∧ Cells K H m f cs ∧
  Rw (Zs K CA (fun cls d H => Wx cls d σ H) H m f) (Mi.evs O ρ es cs) (fun ws cs' => ∀ vs H' m', Keep H H' m m' → Reps K H' m' f ws vs → Cells K H' m' f cs' → Q vs H')
/-- of a test -/
def tTs (O : Orc) (K : PySem.W.Frag) (CA : Nat → Addr) (Wx : WX) (e : Mi.Ex) : TT := fun σ H Q => ∃ (ρ : ME) (cs : List Ob) (m f : List Addr), EnvR K H m f ρ σ ∧ Cells K H m f cs ∧
  Rw (Zs K CA (fun cls d H => Wx cls d σ H) H m f) (Mi.test O ρ e cs) (fun b cs' => ∀ H' m', Keep H H' m m' → Cells K H' m' f cs' → Q b H')
/-- of a slice's part -/
def tOs (O : Orc) (K : PySem.W.Frag) (CA : Nat → Addr) (Wx : WX) (e : Mi.OEx) : TO := fun σ H Q => ∃ (ρ : ME) (cs : List Ob) (m f : List Addr), EnvR K H m f ρ σ ∧ Cells K H m f cs ∧
  Rw (Zs K CA (fun cls d H => Wx cls d σ H) H m f) (Mi.evO O ρ e cs) (fun o cs' => ∀ H' m', Keep H H' m m' → Cells K H' m' f cs' → Q o H')

theorem peImp {X : Cx} {e : Expr} {t t' : TE} (h : PE X e t) (i : ∀ σ H Q, t' σ H Q → t σ H Q) : PE X e t' := ⟨fun pins s σ H Q I hw => h.run pins s σ H Q I (i σ H Q hw)⟩
theorem ptImp {X : Cx} {e : Expr} {t t' : TT} (h : PT X e t) (i : ∀ σ H Q, t' σ H Q → t σ H Q) : PT X e t' := ⟨fun pins s σ H Q I hw => h.run pins s σ H Q I (i σ H Q hw)⟩
theorem pwImp {X : Cx} {e : Expr} {t t' : TT} (h : PW X e t) (i : ∀ σ H Q, t' σ H Q → t σ H Q) : PW X e t' := ⟨fun whole pins s σ H Q I hw => h.run whole pins s σ H Q I (i σ H Q hw)⟩
theorem paImp {X : Cx} {e : List Expr} {t t' : TA} (h : PA X e t) (i : ∀ σ H Q, t' σ H Q → t σ H Q) : PA X e t' := ⟨fun pos pins s σ H Q I hw => h.run pos pins s σ H Q I (i σ H Q hw)⟩
theorem poImp {X : Cx} {e : Option Expr} {t t' : TO} (h : PO X e t) (i : ∀ σ H Q, t' σ H Q → t σ H Q) : PO X e t' := ⟨fun pins s σ H Q I hw => h.run pins s σ H Q I (i σ H Q hw)⟩

section
variable {O : Orc} {K : PySem.W.Frag} {CA : Nat → Addr} {Wx : WX} {σ : LS} {H : Hp} {ρ : ME} {cs : List Ob} {m f : List Addr}
/-- an expression first, then what the evaluator does with its value -/
theorem tE_then {β : Type} {e : Mi.Ex} {g : W → List Ob → R β} {q : β → List Ob → Prop} {Q : VK} (env : EnvR K H m f ρ σ) (c : Cells K H m f cs) (h : Rw (Zs K CA (fun cls d H => Wx cls d σ H) H m f) ((Mi.ev O ρ e cs).bind g) q)
    (k : ∀ w cs1 v H1 m1, Keep H H1 m m1 → Out K H m f H1 m1 w cs1 v → EnvR K H1 m1 f ρ σ → Rw (Zs K CA (fun cls d H => Wx cls d σ H) H1 m1 f) (g w cs1) q → Q v H1) : tE O K CA Wx e σ H Q :=
  ⟨ρ, cs, m, f, env, c, h.bind.imp (fun _ _ z => z) fun w cs1 h1 v H1 m1 k1 o => k w cs1 v H1 m1 k1 o (env.mono k1) (h1.imp (fun _ _ z => z.mono k1) fun _ _ z => z)⟩
theorem tAs_then {β : Type} {es : Mi.Exs} {g : List W → List Ob → R β} {q : β → List Ob → Prop} {Q : List V → Hp → Prop} (env : EnvR K H m f ρ σ) (c : Cells K H m f cs) (h : Rw (Zs K CA (fun cls d H => Wx cls d σ H) H m f) ((Mi.evs O ρ es cs).bind g) q)
    (k : ∀ ws cs1 vs H1 m1, Keep H H1 m m1 → Reps K H1 m1 f ws vs → Cells K H1 m1 f cs1 → EnvR K H1 m1 f ρ σ → Rw (Zs K CA (fun cls d H => Wx cls d σ H) H1 m1 f) (g ws cs1) q → Q vs H1) : tAs O K CA Wx es σ H Q :=
  ⟨ρ, cs, m, f, env, c, h.bind.imp (fun _ _ z => z) fun w cs1 h1 v H1 m1 k1 o c1 => k w cs1 v H1 m1 k1 o c1 (env.mono k1) (h1.imp (fun _ _ z => z.mono k1) fun _ _ z => z)⟩
theorem tOs_then {β : Type} {e : Mi.OEx} {g : Option Int → List Ob → R β} {q : β → List Ob → Prop} {Q : Option Int → Hp → Prop} (env : EnvR K H m f ρ σ) (c : Cells K H m f cs) (h : Rw (Zs K CA (fun cls d H => Wx cls d σ H) H m f) ((Mi.evO O ρ e cs).bind g) q)
    (k : ∀ w cs1 H1 m1, Keep H H1 m m1 → Cells K H1 m1 f cs1 → EnvR K H1 m1 f ρ σ → Rw (Zs K CA (fun cls d H => Wx cls d σ H) H1 m1 f) (g w cs1) q → Q w H1) : tOs O K CA Wx e σ H Q :=
  ⟨ρ, cs, m, f, env, c, h.bind.imp (fun _ _ z => z) fun w cs1 h1 H1 m1 k1 c1 => k w cs1 H1 m1 k1 c1 (env.mono k1) (h1.imp (fun _ _ z => z.mono k1) fun _ _ z => z)⟩
theorem tTs_then {β : Type} {e : Mi.Ex} {g : W → List Ob → R β} {q : β → List Ob → Prop} {Q : Bool → Hp → Prop} (env : EnvR K H m f ρ σ) (c : Cells K H m f cs) (h : Rw (Zs K CA (fun cls d H => Wx cls d σ H) H m f) ((Mi.ev O ρ e cs).bind g) q)
    (ht : ∀ w cs1, Rw (Zs K CA (fun cls d H => Wx cls d σ H) H m f) (g w cs1) q → ∃ b, Mi.truth cs1 w = some b)
    (k : ∀ w cs1 b H1 m1, Keep H H1 m m1 → Cells K H1 m1 f cs1 → EnvR K H1 m1 f ρ σ → Mi.truth cs1 w = some b → Rw (Zs K CA (fun cls d H => Wx cls d σ H) H1 m1 f) (g w cs1) q → Q b H1) : tTs O K CA Wx e σ H Q := by
  refine ⟨ρ, cs, m, f, env, c, ?_⟩
  unfold Mi.test
  have hb := h.bind
  cases e1 : Mi.ev O ρ e cs with
  | bad =>
    rw [e1] at hb
    exact hb
  | exn x c1 =>
    rw [e1] at hb
    exact hb
  | ok w cs1 =>
    rw [e1] at hb
    have hb' : Rw (Zs K CA (fun cls d H => Wx cls d σ H) H m f) (g w cs1) q := hb
    obtain ⟨b, eb⟩ := ht w cs1 hb'
    show Rw _ (Mi.ofO (Mi.truth cs1 w) cs1) _
    rw [eb]
    intro H1 m1 k1 c1
    exact k w cs1 b H1 m1 k1 c1 (env.mono k1) eb (hb'.imp (fun _ _ z => z.mono k1) fun _ _ z => z)
end

section
variable {X : Cx} {O : Orc} {CA : Nat → Addr} {Wx : WX} {a b c e : Expr} {ea eb ec : Mi.Ex} {pos : Pos}
theorem te_var {i : Nat} {x : Str} (hN : X.N[i]? = some x) (hv : Vis X.env.scope x) (hd : (x == ("__debug__" : Str)) = false) (hcd : (x == ("__classdict__" : Str)) = false) : PE X (.Name x pos) (tE O X.K CA Wx (.var i)) :=
  peImp (pe_var hN hv hd hcd) fun σ H Q ⟨ρ, cs, m, f, env, c, h⟩ => by
    unfold Mi.ev at h
    cases e : ρ[i]? with
    | none =>
      rw [e] at h
      exact h.elim
    | some o =>
      cases o with
      | none =>
        rw [e] at h
        exact h.elim
      | some w =>
        rw [e] at h
        obtain ⟨v, h1, h2⟩ := env.2 i w e
        exact ⟨v, h1, h v H m Keep.refl (.old h2 c)⟩
theorem te_non {j p} : PE X (.Constant .none j p) (tE O X.K CA Wx .non) :=
  peImp pe_non fun _ H _ ⟨_, _, m, _, _, c, h⟩ => h _ H m Keep.refl (.old .non c)
theorem te_bl {b j p} : PE X (.Constant (.bool b) j p) (tE O X.K CA Wx (.bl b)) :=
  peImp pe_bl fun _ H _ ⟨_, _, m, _, _, c, h⟩ => h _ H m Keep.refl (.old (.bl b) c)
theorem te_int {i j p} : PE X (.Constant (.int i) j p) (tE O X.K CA Wx (.int i)) :=
  peImp pe_int fun _ H _ ⟨_, _, m, _, _, c, h⟩ => h _ H m Keep.refl (.old (.int i) c)
theorem te_str {x j p} : PE X (.Constant (.str x) j p) (tE O X.K CA Wx (.str x)) :=
  peImp pe_str fun _ H _ ⟨_, _, m, _, _, c, h⟩ => h _ H m Keep.refl (.old (.str x) c)
/-- a constant of the module -/
theorem te_glob {x : Str} {w : W} {v : V} {u : Value} (hg : Gl X x) (hm : X.mg x = some u) (r : RelV v u) (hd : (x == ("__debug__" : Str)) = false) (hw : O.glob x = some w) (hr : ∀ H m f, Rep X.K H m f w v) : PE X (.Name x pos) (tE O X.K CA Wx (.glob x)) :=
  peImp (pe_glob hg hm r hd) fun _ H _ ⟨_, cs, m, f, _, c, h⟩ => by
    unfold Mi.ev at h
    rw [hw] at h
    exact h v H m Keep.refl (.old (hr H m f) c)
theorem te_bin {op : Mi.Bop} (ha : PE X a (tE O X.K CA Wx ea)) (hb : PE X b (tE O X.K CA Wx eb)) : PE X (.BinOp a (bopOf op) b pos) (tE O X.K CA Wx (.bin op ea eb)) :=
  peImp (pe_op (op_bop op) ha hb) fun σ H Q ⟨ρ, cs, m, f, env, c, h⟩ => by
    unfold Mi.ev at h
    refine tE_then env c h fun w cs1 v H1 m1 k1 o1 env1 h1 => ?_
    refine tE_then env1 o1.cells h1 fun w2 cs2 v2 H2 m2 k2 o2 env2 h2 => ?_
    exact ⟨w, w2, cs2, m2, f, o1.rep.mono k2, o2.rep, o2.cells, (h2.imp (z' := fun _ _ => True) (fun _ _ _ => trivial) fun _ _ z => z.mono (k1.trans k2)).rq⟩
theorem te_neg (ha : PE X a (tE O X.K CA Wx ea)) : PE X (.UnaryOp .USub a pos) (tE O X.K CA Wx (.neg ea)) :=
  peImp (pe_un un_neg ha) fun σ H Q ⟨ρ, cs, m, f, env, c, h⟩ => by
    unfold Mi.ev at h
    refine tE_then env c h fun w cs1 v H1 m1 k1 o1 env1 h1 => ?_
    cases w <;> first | exact h1.elim | skip
    cases o1 with
    | old r c1 =>
      cases r
      exact ⟨_, rfl, h1 _ H1 m1 k1 (.old (.int _) c1)⟩
theorem te_cmp {op : Mi.Cop} (hu : X.A.units + 64 < cLine) (ha : PE X a (tE O X.K CA Wx ea)) (hb : PE X b (tE O X.K CA Wx eb)) (hm : behindInMarks (copOf op) b = false) : PE X (.Compare a [copOf op] [b] pos) (tE O X.K CA Wx (.cmp op ea eb)) :=
  peImp (pe_cmpR (op_cop hu op) ha hb hm) fun σ H Q ⟨ρ, cs, m, f, env, c, h⟩ => by
    unfold Mi.ev at h
    refine tE_then env c h fun w cs1 v H1 m1 k1 o1 env1 h1 => ?_
    refine tE_then env1 o1.cells h1 fun w2 cs2 v2 H2 m2 k2 o2 env2 h2 => ?_
    cases e : Mi.cop op w w2 cs2 with
    | none =>
      rw [e] at h2
      exact h2.elim
    | some k =>
      rw [e] at h2
      exact ⟨w, w2, cs2, m2, f, k, o1.rep.mono k2, o2.rep, o2.cells, e, h2 _ H2 m2 (k1.trans k2) (.old (.bl k) o2.cells)⟩
theorem tt_cmp {op : Mi.Cop} (hu : X.A.units + 64 < cLine) (ha : PE X a (tE O X.K CA Wx ea)) (hb : PE X b (tE O X.K CA Wx eb)) (hm : behindInMarks (copOf op) b = false) : PT X (.Compare a [copOf op] [b] pos) (tTs O X.K CA Wx (.cmp op ea eb)) :=
  ptImp (pt_cmpR (op_cop hu op) ha hb hm) fun σ H Q ⟨ρ, cs, m, f, env, c, h⟩ => by
    unfold Mi.test at h
    unfold Mi.ev at h
    have h' := h.bind
    refine tE_then env c h' fun w cs1 v H1 m1 k1 o1 env1 h1 => ?_
    refine tE_then env1 o1.cells h1 fun w2 cs2 v2 H2 m2 k2 o2 env2 h2 => ?_
    cases e : Mi.cop op w w2 cs2 with
    | none =>
      rw [e] at h2
      exact h2.elim
    | some k =>
      rw [e] at h2
      exact ⟨w, w2, cs2, m2, f, k, o1.rep.mono k2, o2.rep, o2.cells, e, k, rfl, h2 H2 m2 (k1.trans k2) o2.cells⟩
theorem chain_ok {op op' : Mi.Cop} {σ : LS} {H : Hp} {Q : VK} (h : tE O X.K CA Wx (.chain op op' ea eb ec) σ H Q) : tChain (rvC X.K (Mi.cop op)) (rvC X.K (Mi.cop op')) (tE O X.K CA Wx ea) (tE O X.K CA Wx eb) (tE O X.K CA Wx ec) σ H Q := by
  obtain ⟨ρ, cs, m, f, env, c, h⟩ := h
  unfold Mi.ev at h
  refine tE_then env c h fun w cs1 v H1 m1 k1 o1 env1 h1 => ?_
  refine tE_then env1 o1.cells h1 fun w2 cs2 v2 H2 m2 k2 o2 env2 h2 => ?_
  cases e : Mi.cop op w w2 cs2 with
  | none =>
    rw [e] at h2
    exact h2.elim
  | some k =>
    rw [e] at h2
    refine ⟨w, w2, cs2, m2, f, k, o1.rep.mono k2, o2.rep, o2.cells, e, k, rfl, ?_⟩
    cases k with
    | false => exact iteF (h2 _ H2 m2 (k1.trans k2) (.old (.bl false) o2.cells))
    | true =>
      refine iteT (tE_then env2 o2.cells h2 fun w3 cs3 v3 H3 m3 k3 o3 env3 h3 => ?_)
      cases e3 : Mi.cop op' w2 w3 cs3 with
      | none =>
        rw [e3] at h3
        exact h3.elim
      | some k' =>
        rw [e3] at h3
        exact ⟨w2, w3, cs3, m3, f, k', o2.rep.mono k3, o3.rep, o3.cells, e3, h3 _ H3 m3 ((k1.trans k2).trans k3) (.old (.bl k') o3.cells)⟩
theorem te_chain {op op' : Mi.Cop} (hu : X.A.units + 64 < cLine) (ha : PE X a (tE O X.K CA Wx ea)) (hb : PE X b (tE O X.K CA Wx eb)) (hc : PE X c (tE O X.K CA Wx ec)) (hm : lastMarks [copOf op, copOf op'] [b, c] = false) :
    PE X (.Compare a [copOf op, copOf op'] [b, c] pos) (tE O X.K CA Wx (.chain op op' ea eb ec)) := peImp (pe_chain (op_cop hu op) (op_cop hu op') ha hb hc hm) fun _ _ _ h => chain_ok h
/-- a test that is a value's truth: a bool -/
theorem test_val {σ : LS} {H : Hp} {Q : Bool → Hp → Prop} (h : tTs O X.K CA Wx ea σ H Q) : tB (tE O X.K CA Wx ea) σ H Q := by
  obtain ⟨ρ, cs, m, f, env, c, h⟩ := h
  unfold Mi.test at h
  refine tE_then env c h fun w cs1 v H1 m1 k1 o1 env1 h1 => ?_
  obtain ⟨b, e, hb⟩ := h1.ofO
  cases w <;> first | (cases e; done) | skip
  cases e
  cases o1 with
  | old r c1 =>
    cases r
    exact ⟨_, rfl, hb H1 m1 k1 c1⟩
theorem tt_chain {op op' : Mi.Cop} (hu : X.A.units + 64 < cLine) (ha : PE X a (tE O X.K CA Wx ea)) (hb : PE X b (tE O X.K CA Wx eb)) (hc : PE X c (tE O X.K CA Wx ec)) (hm : lastMarks [copOf op, copOf op'] [b, c] = false) :
    PT X (.Compare a [copOf op, copOf op'] [b, c] pos) (tTs O X.K CA Wx (.chain op op' ea eb ec)) := ptImp (pt_chain (op_cop hu op) (op_cop hu op') ha hb hc hm) fun _ _ _ h => chain_ok (test_val h)
theorem tt_val (ha : PE X a (tE O X.K CA Wx ea)) (he : ∀ whole, isTrue a X.env whole = (do let v ← whole; standAt a.pos; holding [v] (truthy v))) : PT X a (tTs O X.K CA Wx ea) := ptImp (pt_val ha he) fun _ _ _ h => test_val h
theorem tt_not (ha : PT X a (tTs O X.K CA Wx ea)) : PT X (.UnaryOp .Not a pos) (tTs O X.K CA Wx (.not ea)) :=
  ptImp (pt_not ha) fun σ H Q ⟨ρ, cs, m, f, env, c, h⟩ => by
    unfold Mi.test at h
    unfold Mi.ev at h
    refine tTs_then env c h.bind (fun w cs1 h1 => ?_) fun w cs1 b H1 m1 k1 c1 env1 e h1 => ?_
    · cases e : Mi.truth cs1 w with
      | none =>
        rw [e] at h1
        exact h1.elim
      | some b => exact ⟨b, rfl⟩
    · rw [e] at h1
      exact h1 H1 m1 k1 c1
theorem te_not (ha : PE X a (tE O X.K CA Wx ea)) : PE X (.UnaryOp .Not a pos) (tE O X.K CA Wx (.not ea)) :=
  peImp (pe_not ha) fun σ H Q ⟨ρ, cs, m, f, env, c, h⟩ => by
    unfold Mi.ev at h
    refine tE_then env c h fun w cs1 v H1 m1 k1 o1 env1 h1 => ?_
    cases w <;> first | exact h1.elim | skip
    cases o1 with
    | old r c1 =>
      cases r
      exact ⟨_, rfl, h1 _ H1 m1 k1 (.old (.bl _) c1)⟩
end
end So
end S_Exps

section S_Exps2
set_option Elab.async false
set_option linter.all false
set_option maxRecDepth 100000
set_option maxHeartbeats 4000000
/-! Exps2: and, or, displays, places, calls. -/
namespace So
open PySem PySem.Spec PyProof.Rows L2
open Mi (W Ob Xn R Orc)
section
variable {X : Cx} {O : Orc} {CA : Nat → Addr} {Wx : WX} {a b c e : Expr} {es rest : List Expr} {ea eb ec : Mi.Ex} {as : Mi.Exs} {pos : Pos}
theorem te_and (ha : PE X a (tE O X.K CA Wx ea)) (hb : PE X (.BoolOp .And (b :: rest) pos) (tE O X.K CA Wx eb)) : PE X (.BoolOp .And (a :: b :: rest) pos) (tE O X.K CA Wx (.and ea eb)) :=
  peImp (pe_and ha hb) fun σ H Q ⟨ρ, cs, m, f, env, c, h⟩ => by
    unfold Mi.ev at h
    refine tE_then env c h fun w cs1 v H1 m1 k1 o1 env1 h1 => ?_
    cases w <;> first | exact h1.elim | skip
    rename_i k
    cases o1 with
    | old r c1 =>
      cases r
      cases k with
      | true => exact ⟨true, rfl, iteT ⟨ρ, cs1, m1, f, env1, c1, h1.imp (fun _ _ z => z) fun _ _ z => z.mono k1⟩⟩
      | false => exact ⟨false, rfl, iteF (h1 _ H1 m1 k1 (.old (.bl false) c1))⟩
theorem te_or (ha : PE X a (tE O X.K CA Wx ea)) (hb : PE X (.BoolOp .Or (b :: rest) pos) (tE O X.K CA Wx eb)) : PE X (.BoolOp .Or (a :: b :: rest) pos) (tE O X.K CA Wx (.or ea eb)) :=
  peImp (pe_or ha hb) fun σ H Q ⟨ρ, cs, m, f, env, c, h⟩ => by
    unfold Mi.ev at h
    refine tE_then env c h fun w cs1 v H1 m1 k1 o1 env1 h1 => ?_
    cases w <;> first | exact h1.elim | skip
    rename_i k
    cases o1 with
    | old r c1 =>
      cases r
      cases k with
      | false => exact ⟨false, rfl, iteF ⟨ρ, cs1, m1, f, env1, c1, h1.imp (fun _ _ z => z) fun _ _ z => z.mono k1⟩⟩
      | true => exact ⟨true, rfl, iteT (h1 _ H1 m1 k1 (.old (.bl true) c1))⟩
theorem tw_and (ha : PT X a (tTs O X.K CA Wx ea)) (hb : PW X (.BoolOp .And (b :: rest) pos) (tTs O X.K CA Wx eb)) : PW X (.BoolOp .And (a :: b :: rest) pos) (tTs O X.K CA Wx (.and ea eb)) :=
  pwImp (pw_and ha hb) fun σ H Q ⟨ρ, cs, m, f, env, c, h⟩ => by
    unfold Mi.test at h
    unfold Mi.ev at h
    refine tTs_then env c h.bind (fun w cs1 h1 => ?_) fun w cs1 k H1 m1 k1 c1 env1 e h1 => ?_
    · cases w <;> first | exact h1.elim | exact ⟨_, rfl⟩
    · cases w <;> first | (cases e; done) | skip
      cases e
      cases k with
      | true => exact iteT ⟨ρ, cs1, m1, f, env1, c1, by unfold Mi.test; exact (show Rw _ (Mi.ev O ρ eb cs1) _ from h1).imp_bind fun w2 cs2 z => z.imp (fun _ _ z => z.mono k1) fun b2 cs3 z H2 m2 k2 c2 => z H2 m2 (k1.trans k2) c2⟩
      | false => exact iteF (h1 H1 m1 k1 c1)
theorem tw_or (ha : PT X a (tTs O X.K CA Wx ea)) (hb : PW X (.BoolOp .Or (b :: rest) pos) (tTs O X.K CA Wx eb)) : PW X (.BoolOp .Or (a :: b :: rest) pos) (tTs O X.K CA Wx (.or ea eb)) :=
  pwImp (pw_or ha hb) fun σ H Q ⟨ρ, cs, m, f, env, c, h⟩ => by
    unfold Mi.test at h
    unfold Mi.ev at h
    refine tTs_then env c h.bind (fun w cs1 h1 => ?_) fun w cs1 k H1 m1 k1 c1 env1 e h1 => ?_
    · cases w <;> first | exact h1.elim | exact ⟨_, rfl⟩
    · cases w <;> first | (cases e; done) | skip
      cases e
      cases k with
      | false => exact iteF ⟨ρ, cs1, m1, f, env1, c1, by unfold Mi.test; exact (show Rw _ (Mi.ev O ρ eb cs1) _ from h1).imp_bind fun w2 cs2 z => z.imp (fun _ _ z => z.mono k1) fun b2 cs3 z H2 m2 k2 c2 => z H2 m2 (k1.trans k2) c2⟩
      | true => exact iteT (h1 H1 m1 k1 c1)
theorem te_ifx (hc : PT X c (tTs O X.K CA Wx ec)) (ha : PE X a (tE O X.K CA Wx ea)) (hb : PE X b (tE O X.K CA Wx eb)) : PE X (.IfExp c a b pos) (tE O X.K CA Wx (.ifx ec ea eb)) :=
  peImp (pe_ifExp hc ha hb) fun σ H Q ⟨ρ, cs, m, f, env, c, h⟩ => by
    unfold Mi.ev at h
    refine tTs_then env c h (fun w cs1 h1 => ?_) fun w cs1 k H1 m1 k1 c1 env1 e h1 => ?_
    · cases e : Mi.truth cs1 w with
      | none =>
        rw [e] at h1
        exact h1.elim
      | some b => exact ⟨b, rfl⟩
    · rw [e] at h1
      cases k with
      | true => exact iteT ⟨ρ, cs1, m1, f, env1, c1, h1.imp (fun _ _ z => z) fun _ _ z => z.mono k1⟩
      | false => exact iteF ⟨ρ, cs1, m1, f, env1, c1, h1.imp (fun _ _ z => z) fun _ _ z => z.mono k1⟩
/-! ### arguments, displays -/
theorem ta_nil : PA X [] (tAs O X.K CA Wx .nil) := paImp pa_nil fun σ H Q ⟨ρ, cs, m, f, env, c, h⟩ => by
  unfold Mi.evs at h
  exact h _ H m Keep.refl .nil c
theorem ta_cons (ha : PE X e (tE O X.K CA Wx ea)) (hr : PA X es (tAs O X.K CA Wx as)) (hs : starEach (e :: es) X.env = (false, eval e X.env) :: starEach es X.env) : PA X (e :: es) (tAs O X.K CA Wx (.cons ea as)) :=
  paImp (pa_cons ha hr hs) fun σ H Q ⟨ρ, cs, m, f, env, c, h⟩ => by
    unfold Mi.evs at h
    refine tE_then env c h fun w cs1 v H1 m1 k1 o1 env1 h1 => ?_
    refine tAs_then env1 o1.cells h1 fun ws cs2 vs H2 m2 k2 r2 c2 env2 h2 => ?_
    exact h2 (v :: vs) H2 m2 (k1.trans k2) (.cons (o1.rep.mono k2) r2) c2
theorem te_tuple {x1} (h : PA X es (tAs O X.K CA Wx as)) : PE X (.Tuple es x1 pos) (tE O X.K CA Wx (.tuple as)) :=
  peImp (pe_tup h) fun σ H Q ⟨ρ, cs, m, f, env, c, h⟩ => by
    unfold Mi.ev at h
    refine tAs_then env c h fun ws cs2 vs H2 m2 k2 r2 c2 env2 h2 => ?_
    unfold Mi.mkTup at h2
    split at h2
    · rename_i hz
      refine ⟨by rw [← r2.length]; exact sl_le hz, fun p hp => h2 _ _ m2 (k2.trans (Keep.new hp)) ?_⟩
      exact (out_tup c2 hp r2).back k2
    · exact h2.elim
theorem te_list (h : PA X es (tAs O X.K CA Wx as)) : PE X (.List es pos) (tE O X.K CA Wx (.list as)) :=
  peImp (pe_lst h) fun σ H Q ⟨ρ, cs, m, f, env, c, h⟩ => by
    unfold Mi.ev at h
    refine tAs_then env c h fun ws cs2 vs H2 m2 k2 r2 c2 env2 h2 => ?_
    unfold Mi.mkNew at h2
    split at h2
    · rename_i hz
      refine ⟨by rw [← r2.length]; exact sl_le hz, fun p hp => h2 _ _ m2 (k2.trans (Keep.new hp)) ?_⟩
      exact (out_new c2 hp r2).back k2
    · exact h2.elim
/-! ### places -/
theorem te_sub (ha : PE X a (tE O X.K CA Wx ea)) (hb : PE X b (tE O X.K CA Wx eb)) (hs : PlainIx b) : PE X (.Subscript a b pos) (tE O X.K CA Wx (.sub ea eb)) :=
  peImp (pe_ix ix_sub ha hb hs) fun σ H Q ⟨ρ, cs, m, f, env, c, h⟩ => by
    unfold Mi.ev at h
    refine tE_then env c h fun w cs1 v H1 m1 k1 o1 env1 h1 => ?_
    refine tE_then env1 o1.cells h1 fun w2 cs2 v2 H2 m2 k2 o2 env2 h2 => ?_
    obtain ⟨z, e, q⟩ := h2.ofO
    exact ⟨w, w2, z, cs2, m2, f, o1.rep.mono k2, o2.rep, o2.cells, e, fun u r => q u H2 m2 (k1.trans k2) (.old r o2.cells)⟩
theorem to_none : PO X none (tOs O X.K CA Wx .none) := poImp po_none fun σ H Q ⟨ρ, cs, m, f, env, c, h⟩ => by
  unfold Mi.evO at h
  exact h H m Keep.refl c
theorem to_some (ha : PE X a (tE O X.K CA Wx ea)) : PO X (some a) (tOs O X.K CA Wx (.some ea)) := poImp (po_some ha) fun σ H Q ⟨ρ, cs, m, f, env, c, h⟩ => by
  unfold Mi.evO at h
  refine tE_then env c h fun w cs1 v H1 m1 k1 o1 env1 h1 => ?_
  cases w <;> first | exact h1.elim | skip
  cases o1 with
  | old r c1 =>
    cases r
    exact ⟨_, rfl, h1 H1 m1 k1 c1⟩
theorem te_slice {lo hi : Option Expr} {el eh : Mi.OEx} {p2 : Pos} (ha : PE X a (tE O X.K CA Wx ea)) (hl : PO X lo (tOs O X.K CA Wx el)) (hh : PO X hi (tOs O X.K CA Wx eh)) : PE X (.Subscript a (.Slice lo hi none p2) pos) (tE O X.K CA Wx (.slice ea el eh)) :=
  peImp (pe_slice sl_slice ha hl hh) fun σ H Q ⟨ρ, cs, m, f, env, c, h⟩ => by
    unfold Mi.ev at h
    refine tE_then env c h fun w cs1 v H1 m1 k1 o1 env1 h1 => ?_
    refine tOs_then env1 o1.cells h1 fun l cs2 H2 m2 k2 c2 env2 h2 => ?_
    refine tOs_then env2 c2 h2 fun u cs3 H3 m3 k3 c3 env3 h3 => ?_
    exact ⟨w, cs3, m3, f, (o1.rep.mono k2).mono k3, c3, (h3.imp (z' := fun _ _ => True) (fun _ _ _ => trivial) fun _ _ z => z.mono ((k1.trans k2).trans k3)).rq⟩
/-! ### built-in functions by their values -/
theorem blt_ok {t : Mi.Blt} {σ : LS} {H : Hp} {Q : VK} (h : tE O X.K CA Wx (.blt t as) σ H Q) : tCB (rvF X.K (Mi.blt t)) (tAs O X.K CA Wx as) σ H Q := by
  obtain ⟨ρ, cs, m, f, env, c, h⟩ := h
  unfold Mi.ev at h
  refine tAs_then env c h fun ws cs2 vs H2 m2 k2 r2 c2 env2 h2 => ?_
  exact ⟨ws, cs2, m2, f, r2, c2, (h2.imp (z' := fun _ _ => True) (fun _ _ _ => trivial) fun _ _ z => z.mono k2).rq⟩
theorem te_bltB {t : Mi.Blt} {x : Str} {id : String} {p : Pos} {r : List V → Hp → VK → Prop} (hc : CallR X (.builtin id) r) (hr : ∀ vs H Q, rvF X.K (Mi.blt t) vs H Q → r vs H Q) (hg : Gl X x) (hm : X.mg x = none) (hv : bootBuiltins x = some (.builtin id)) (ha : PA X (e :: es) (tAs O X.K CA Wx as)) (hn : x ≠ "__name__") (hdb : (x == ("__debug__" : Str)) = false)
    (he : starEach (e :: es) X.env = (false, eval e X.env) :: starEach es X.env) (hpl : (backTo pos (starEach es X.env)).any (·.1) = false) : PE X (.Call (.Name x p) (e :: es) [] pos) (tE O X.K CA Wx (.blt t as)) :=
  peImp (pe_callB hc hg hm hv ha hn hdb he hpl) fun σ H Q h => by
    obtain ⟨ρ, cs, m, f, env, c, h'⟩ := blt_ok h
    exact ⟨ρ, cs, m, f, env, c, h'.imp (fun _ _ z => z) fun ws cs' z vs H' m' k r' c' => hr vs H' Q (z vs H' m' k r' c')⟩
theorem te_bltT {t : Mi.Blt} {x : Str} {T : String} {p : Pos} (hc : CallR X (.type T) (rvF X.K (Mi.blt t))) (hg : Gl X x) (hm : X.mg x = none) (hv : bootBuiltins x = some (.type T)) (ha : PA X (e :: es) (tAs O X.K CA Wx as)) (hn : x ≠ "__name__") (hdb : (x == ("__debug__" : Str)) = false)
    (he : starEach (e :: es) X.env = (false, eval e X.env) :: starEach es X.env) (hpl : (backTo pos (starEach es X.env)).any (·.1) = false) : PE X (.Call (.Name x p) (e :: es) [] pos) (tE O X.K CA Wx (.blt t as)) :=
  peImp (pe_callTy hc hg hm hv ha hn hdb he hpl) fun σ H Q h => blt_ok h
theorem te_isi {t : Mi.Ty} {x y : Str} {p p2 : Pos} (ha : PE X a (tE O X.K CA Wx ea)) (hg : Gl X x) (hx : x = "isinstance") (hm : X.mg x = none) (hg2 : Gl X y) (hm2 : X.mg y = none) (hy : bootBuiltins y = some (.type (tyOf t))) (hn2 : y ≠ "__name__") (hdb2 : (y == ("__debug__" : Str)) = false)
    (he : starEach [a, .Name y p2] X.env = (false, eval a X.env) :: starEach [.Name y p2] X.env) : PE X (.Call (.Name x p) [a, .Name y p2] [] pos) (tE O X.K CA Wx (.isi ea t)) := by
  subst hx
  refine peImp (pe_callB (call_isi2 t) hg hm (by decide +kernel) (pa_cons ha (pa_cons (pe_bltn (v := .ty (tyOf t)) hg2 hm2 hy rfl hn2 hdb2) pa_nil) he) (by decide) (by decide) he (by rfl)) fun σ H Q ⟨ρ, cs, m, f, env, c, h⟩ => ?_
  unfold Mi.ev at h
  refine tE_then env c h fun w cs1 v H1 m1 k1 o1 env1 h1 => ?_
  cases e : Mi.isiW t w cs1 with
  | none =>
    rw [e] at h1
    exact h1.elim
  | some k =>
    rw [e] at h1
    exact ⟨w, v, cs1, m1, f, k, rfl, o1.rep, o1.cells, e, h1 _ H1 m1 k1 (.old (.bl k) o1.cells)⟩
/-! ### methods of lists -/
theorem meth_ok {t : Mi.Mth} {σ : LS} {H : Hp} {Q : VK} (h : tE O X.K CA Wx (.meth t ea as) σ H Q) : tBM X.K "list" (rvM X.K t) (tE O X.K CA Wx ea) (tAs O X.K CA Wx as) σ H Q := by
  obtain ⟨ρ, cs, m, f, env, c, h⟩ := h
  unfold Mi.ev at h
  refine tE_then env c h fun w cs1 v H1 m1 k1 o1 env1 h1 => ?_
  split at h1
  · rename_i hw
    have hl : tyV X.K "list" v H1 := by
      cases w <;> first | (cases hw; done) | skip
      rename_i n
      cases o1 with
      | old r c1 =>
        cases r with
        | ref hm =>
          obtain ⟨xs, e⟩ := Option.isSome_iff_exists.mp (show (Mi.cellL cs1 n).isSome = true from hw)
          obtain ⟨vs, g1, _⟩ := c1.lst hm e
          exact .inl ⟨rfl, _, SqL.of g1⟩
    refine ⟨hl, tAs_then env1 o1.cells h1 fun ws cs2 vs H2 m2 k2 r2 c2 env2 h2 => ?_⟩
    exact ⟨w, ws, cs2, m2, f, o1.rep.mono k2, r2, c2, (h2.imp (z' := fun _ _ => True) (fun _ _ _ => trivial) fun _ _ z => z.mono (k1.trans k2)).rq⟩
  · exact h1.elim
theorem meth0_ok {t : Mi.Mth} {σ : LS} {H : Hp} {Q : VK} (h : tE O X.K CA Wx (.meth t ea .nil) σ H Q) : tBM0 X.K "list" (rvM X.K t) (tE O X.K CA Wx ea) σ H Q := by
  obtain ⟨ρ, cs, m, f, env, c, h⟩ := meth_ok h
  refine ⟨ρ, cs, m, f, env, c, h.imp (fun _ _ z => z) fun w cs1 z v H1 m1 k1 o1 => ?_⟩
  obtain ⟨h1, ρ2, cs2, m2, f2, env2, c2, h2⟩ := z v H1 m1 k1 o1
  unfold Mi.evs at h2
  exact ⟨h1, h2 [] H1 m2 Keep.refl .nil c2⟩
theorem te_append {o : Expr} {apos : Pos} (ho : PE X o (tE O X.K CA Wx ea)) (ha : PA X [e] (tAs O X.K CA Wx as)) (hbase : attributeBase o "append" X.env (eval o X.env) = eval o X.env) (hline : (apos.endLine == pos.line) = true) (hs : starEach [e] X.env = (false, eval e X.env) :: starEach [] X.env) :
    PE X (.Call (.Attribute o "append" apos) [e] [] pos) (tE O X.K CA Wx (.meth .append ea as)) :=
  peImp (pe_bm PySem.F.plainAttrs_list PySem.F.slot_list_append PySem.F.type_list_append mt_append2 ho ha hbase (by rw [hs]; rfl) hline hs (by rfl)) fun _ _ _ h => meth_ok h
theorem te_extend {o : Expr} {apos : Pos} (ho : PE X o (tE O X.K CA Wx ea)) (ha : PA X [e] (tAs O X.K CA Wx as)) (hbase : attributeBase o "extend" X.env (eval o X.env) = eval o X.env) (hline : (apos.endLine == pos.line) = true) (hs : starEach [e] X.env = (false, eval e X.env) :: starEach [] X.env) :
    PE X (.Call (.Attribute o "extend" apos) [e] [] pos) (tE O X.K CA Wx (.meth .extend ea as)) :=
  peImp (pe_bm PySem.F.plainAttrs_list PySem.F.slot_list_extend PySem.F.type_list_extend mt_extend2 ho ha hbase (by rw [hs]; rfl) hline hs (by rfl)) fun _ _ _ h => meth_ok h
theorem te_popAt {o : Expr} {apos : Pos} (ho : PE X o (tE O X.K CA Wx ea)) (ha : PA X [e] (tAs O X.K CA Wx as)) (hbase : attributeBase o "pop" X.env (eval o X.env) = eval o X.env) (hline : (apos.endLine == pos.line) = true) (hs : starEach [e] X.env = (false, eval e X.env) :: starEach [] X.env) :
    PE X (.Call (.Attribute o "pop" apos) [e] [] pos) (tE O X.K CA Wx (.meth .popAt ea as)) :=
  peImp (pe_bm PySem.F.plainAttrs_list PySem.F.slot_list_pop PySem.F.type_list_pop mt_pop2 ho ha hbase (by rw [hs]; rfl) hline hs (by rfl)) fun σ H Q h => by
    obtain ⟨ρ, cs, m, f, env, c, h⟩ := meth_ok h
    refine ⟨ρ, cs, m, f, env, c, h.imp (fun _ _ z => z) fun w cs1 z v H1 m1 k1 o1 => ?_⟩
    obtain ⟨h1, ρ2, cs2, m2, f2, env2, c2, h2⟩ := z v H1 m1 k1 o1
    exact ⟨h1, ρ2, cs2, m2, f2, env2, c2, h2.imp (fun _ _ z => z) fun ws cs3 z vs H3 m3 k3 r3 c3 => .inr (z vs H3 m3 k3 r3 c3)⟩
theorem te_pop {o : Expr} {apos : Pos} (ho : PE X o (tE O X.K CA Wx ea)) (hbase : attributeBase o "pop" X.env (eval o X.env) = eval o X.env) (hline : (apos.endLine == pos.line) = true) :
    PE X (.Call (.Attribute o "pop" apos) [] [] pos) (tE O X.K CA Wx (.meth .pop ea .nil)) :=
  peImp (pe_bm0 PySem.F.plainAttrs_list PySem.F.slot_list_pop PySem.F.type_list_pop mt_pop2 ho hbase hline) fun σ H Q h => by
    obtain ⟨ρ, cs, m, f, env, c, h⟩ := meth0_ok h
    refine ⟨ρ, cs, m, f, env, c, h.imp (fun _ _ z => z) fun w cs1 z v H1 m1 k1 o1 => ?_⟩
    obtain ⟨h1, h2⟩ := z v H1 m1 k1 o1
    exact ⟨h1, .inl h2⟩
/-! ### defs -/
/-- what a def promises: the evaluator's answer -/
def spF (K : PySem.W.Frag) (CA : Nat → Addr) (g : List W → List Ob → R W) : Sp := fun vs H Q E => ∃ (ws : List W) (cs : List Ob) (m f : List Addr), Reps K H m f ws vs ∧ Cells K H m f cs ∧ Rw (Zs K CA E H m f) (g ws cs) (Ps K H m f Q)
theorem derefL_reps {K : PySem.W.Frag} {H : Hp} {m f : List Addr} {d : W → Option W} (hd : ∀ w w' v, Rep K H m f w v → d w = some w' → Rep K H [] f w' v) : ∀ {ws ws' : List W} {vs : List V}, Reps K H m f ws vs → Mi.derefL d ws = some ws' → Reps K H [] f ws' vs
  | _, _, _, .nil, e => by
    cases e
    exact .nil
  | _, _, _, .cons (w := w) (ws := ws) r t, e => by
    unfold Mi.derefL at e
    split at e
    · rename_i v vs e1 e2
      cases e
      exact .cons (hd _ _ _ r e1) (derefL_reps hd t e2)
    · cases e
theorem deref_rep {K : PySem.W.Frag} {H : Hp} {m f : List Addr} {cs : List Ob} (c : Cells K H m f cs) : ∀ (k : Nat) (w w' : W) (v : V), Rep K H m f w v → Mi.deref cs k w = some w' → Rep K H [] f w' v
  | 0, _, _, _, _, e => by cases e
  | k + 1, w, w', v, r, e => by
    have ih := deref_rep c k
    cases r with
    | non => cases e; exact .non
    | bl b => cases e; exact .bl b
    | int i => cases e; exact .int i
    | str x => cases e; exact .str x
    | scr h1 h2 h3 h4 =>
      simp only [Mi.deref, Option.map_eq_some_iff] at e
      obtain ⟨ys, e1, e2⟩ := e
      subst e2
      exact .scr h1 (by simp) h3 (derefL_reps ih h4 e1)
    | kscr h1 h2 =>
      simp only [Mi.deref, Option.map_eq_some_iff] at e
      obtain ⟨ys, e1, e2⟩ := e
      subst e2
      exact .kscr h1 (derefL_reps ih h2 e1)
    | tup h1 h2 h3 h4 =>
      simp only [Mi.deref, Option.map_eq_some_iff] at e
      obtain ⟨ys, e1, e2⟩ := e
      subst e2
      exact .tup h1 (by simp) h3 (derefL_reps ih h4 e1)
    | ktup h1 h2 =>
      simp only [Mi.deref, Option.map_eq_some_iff] at e
      obtain ⟨ys, e1, e2⟩ := e
      subst e2
      exact .ktup h1 (derefL_reps ih h2 e1)
    | lst h1 h2 h3 h4 =>
      simp only [Mi.deref, Option.map_eq_some_iff] at e
      obtain ⟨ys, e1, e2⟩ := e
      subst e2
      exact .lst h1 (by simp) h3 (derefL_reps ih h4 e1)
    | ref hr =>
      simp only [Mi.deref] at e
      split at e
      · rename_i xs e0
        simp only [Option.map_eq_some_iff] at e
        obtain ⟨ys, e1, e2⟩ := e
        subst e2
        obtain ⟨vs, h1, h2⟩ := c.lst hr e0
        exact .lst h1 (by simp) (fun z => c.fm _ z (List.mem_of_getElem? hr)) (derefL_reps ih h2 e1)
      · cases e
/-! ### a pure def's answer lies in the caller's heap -/
theorem flats_rep {K : PySem.W.Frag} {H : Hp} {m m1 f f1 : List Addr} {g : W → Bool} (hd : ∀ w v, Rep K H m1 f1 w v → g w = true → Rep K H m f w v) : ∀ {ws : List W} {vs : List V}, Reps K H m1 f1 ws vs → ws.all g = true → Reps K H m f ws vs
  | _, _, .nil, _ => .nil
  | _, _, .cons r t, h => by
    rw [List.all_cons, Bool.and_eq_true] at h
    exact .cons (hd _ _ r h.1) (flats_rep hd t h.2)
theorem tup_ne {H : Hp} {a : Addr} {vs : List V} (h : Rd H a (.tup vs)) (e : ∃ xs, H a = some (.lst xs)) : False := by
  obtain ⟨xs, e⟩ := e
  rcases h with h | ⟨o, h⟩ <;> (rw [e] at h; cases h)
theorem flat_rep {K : PySem.W.Frag} {H : Hp} {m m1 f f1 : List Addr} (hm : ∀ a ∈ m, ∃ vs, H a = some (.lst vs)) (hf : ∀ a ∈ f, a ∈ f1 ∨ ∃ vs, H a = some (.lst vs)) : ∀ (k : Nat) (w : W) (v : V), Rep K H m1 f1 w v → Mi.flat k w = true → Rep K H m f w v
  | 0, _, _, _, h => by cases h
  | k + 1, w, v, r, h => by
    have ih : ∀ {ws : List W} {vs : List V}, Reps K H m1 f1 ws vs → ws.all (Mi.flat k) = true → Reps K H m f ws vs := fun r h => flats_rep (flat_rep hm hf k) r h
    cases r with
    | non => exact .non
    | bl b => exact .bl b
    | int i => exact .int i
    | str x => exact .str x
    | scr _ _ _ _ => cases h
    | kscr _ _ => cases h
    | lst _ _ _ _ => cases h
    | ref _ => cases h
    | ktup h1 h2 => exact .ktup h1 (ih h2 h)
    | tup h1 h2 h3 h4 => exact .tup h1 (fun z => tup_ne h1 (hm _ z)) (fun z => (hf _ z).elim h3 (tup_ne h1)) (ih h4 h)
mutual
theorem Rep.far {K : PySem.W.Frag} {H H' : Hp} {m m' f : List Addr} {p : Addr} (hp : H p = none) (k : Keep H H' m m') : ∀ {w : W} {v : V}, Rep K H m f w v → Rep K H' m' (p :: f) w v
  | _, _, .non => .non
  | _, _, .bl b => .bl b
  | _, _, .int i => .int i
  | _, _, .str s => .str s
  | _, _, .tup h ha hf hs => .tup (k.rd h ha).1 (k.rd h ha).2 (notin_new (rd_ne h hp) hf) (Reps.far hp k hs)
  | _, _, .ktup h hs => .ktup h (Reps.far hp k hs)
  | _, _, .kscr h hs => .kscr h (Reps.far hp k hs)
  | _, _, .lst h ha hf hs => .lst (k.same _ _ h ha) (k.out h ha) (notin_new (ne_of_none h hp) hf) (Reps.far hp k hs)
  | _, _, .scr h ha hf hs => .scr (k.rd h ha).1 (k.rd h ha).2 (notin_new (rd_ne h hp) hf) (Reps.far hp k hs)
  | _, _, .ref h => .ref (k.get h)
theorem Reps.far {K : PySem.W.Frag} {H H' : Hp} {m m' f : List Addr} {p : Addr} (hp : H p = none) (k : Keep H H' m m') : ∀ {ws : List W} {vs : List V}, Reps K H m f ws vs → Reps K H' m' (p :: f) ws vs
  | _, _, .nil => .nil
  | _, _, .cons h hs => .cons (Rep.far hp k h) (Reps.far hp k hs)
end
section
variable {K : PySem.W.Frag} {H H' : Hp} {m m1 f : List Addr} {cs : List Ob}
theorem keep_pure (k : Keep H H' [] m1) : Keep H H' m m := ⟨⟨[], by simp, fun _ h => nomatch h⟩, fun a o h _ => k.same a o h (by simp), k.dom⟩
theorem cells_pure (c : Cells K H m f cs) (k : Keep H H' [] m1) : Cells K H' m f cs := c.mono (keep_pure k) fun a ha => by
  cases e : H a with
  | none => exact absurd ha (c.notin e)
  | some o => exact k.same a o e (by simp)
theorem cells_far {p : Addr} (c : Cells K H m f cs) (k : Keep H H' [] m1) (hp : H p = none) (hp' : H' p ≠ none) : Cells K H' m (p :: f) cs := by
  have c' := cells_pure c k
  refine ⟨c.len, c.nd, fun a ha => ?_, fun a ha => ?_, fun n a ob h1 h2 => ?_⟩
  · rcases List.mem_cons.mp ha with e | ha
    · rw [e]
      exact hp'
    · exact c'.fd a ha
  · rcases List.mem_cons.mp ha with e | ha
    · rw [e]
      exact c.notin hp
    · exact c.fm a ha
  · have q := c.at_ n a ob h1 h2
    cases ob with
    | lst xs =>
      obtain ⟨vs, h3, h4⟩ := q
      exact ⟨vs, k.same a _ h3 (by simp), h4.far hp (keep_pure k)⟩
    | ins x fs => exact q
theorem Cells.lists (c : Cells K H m f cs) : ∀ a ∈ m, ∃ vs, H a = some (.lst vs) := fun a ha => by
  obtain ⟨n, hn⟩ := List.getElem?_of_mem ha
  have hl : n < cs.length := by
    rw [c.len]
    exact (List.getElem?_eq_some_iff.mp hn).1
  have q := c.at_ n a cs[n] hn (List.getElem?_eq_getElem hl)
  cases e : cs[n] with
  | lst xs =>
    rw [e] at q
    obtain ⟨vs, h1, _⟩ := q
    exact ⟨vs, h1⟩
  | ins x fs =>
    rw [e] at q
    exact q.elim
theorem handed_out {w w' : W} {c1 : List Ob} {v : V} (c : Cells K H m f cs) (k : Keep H H' [] m1) (o : Out K H [] f H' m1 w c1 v) (e : Mi.handed c1 w = some w') : Out K H m f H' m w' cs v := by
  have c' := cells_pure c k
  cases o with
  | new h1 h2 h3 h4 h5 =>
    unfold Mi.handed at e
    split at e
    · rename_i q
      cases q
    · rename_i xs q
      cases q
      split at e
      · rename_i hf
        cases e
        exact .new h1 h2 h3 (flats_rep (flat_rep c'.lists (fun a ha => .inl ha) _) h4 hf) (cells_far c k h1 (by rw [h3]; exact fun z => nomatch z))
      · cases e
    · rename_i q1 q2
      exact absurd rfl (q2 _)
  | old r c2 =>
    cases r with
    | @ref n a hr =>
      unfold Mi.handed at e
      simp only at e
      split at e
      · rename_i xs ex
        split at e
        · rename_i hf
          cases e
          obtain ⟨vs, g1, g2⟩ := c2.lst hr ex
          have ha : H a = none := by
            obtain ⟨n1, e1, e2⟩ := k.ext
            rw [List.nil_append] at e1
            subst e1
            exact e2 a (List.mem_of_getElem? hr)
          refine .new ha (c.notf ha) g1 (flats_rep (flat_rep c'.lists (fun b hb => ?_) _) g2 hf) (cells_far c k ha (by rw [g1]; exact fun z => nomatch z))
          rcases List.mem_cons.mp hb with e | hb
          · exact .inr ⟨vs, by rw [e]; exact g1⟩
          · exact .inl hb
        · cases e
      · cases e
    | _ => 
      unfold Mi.handed at e
      simp only at e
      split at e
      · rename_i hf
        cases e
        refine .old (flat_rep (m1 := m1) c'.lists (fun a ha => .inl ha) _ _ _ ?_ hf) c'
        first | exact .non | exact .bl _ | exact .int _ | exact .str _ | exact .tup (by assumption) (by assumption) (by assumption) (by assumption) | exact .ktup (by assumption) (by assumption) | exact .kscr (by assumption) (by assumption) | exact .lst (by assumption) (by assumption) (by assumption) (by assumption) | exact .scr (by assumption) (by assumption) (by assumption) (by assumption)
      · cases e
end
theorem cells_none {K : PySem.W.Frag} {H : Hp} {m f : List Addr} {cs : List Ob} (c : Cells K H m f cs) : Cells K H [] f [] := ⟨rfl, List.nodup_nil, c.fd, fun _ _ h => (nomatch h), fun _ _ _ h => (by simp at h)⟩
theorem flatX_rep {K : PySem.W.Frag} {CA : Nat → Addr} {H : Hp} {m m1 f : List Addr} {x : Xn} {cls : Value} {d : Option Addr} (hm : ∀ a ∈ m, ∃ vs, H a = some (.lst vs)) (r : XRep K CA H m1 f x cls d) (h : Mi.flatX x = true) : XRep K CA H m f x cls d := by
  obtain ⟨h1, dd, vs, h2, h3, h4⟩ := r
  refine ⟨h1, dd, vs, h2, h3, flats_rep (flat_rep hm (fun a ha => .inl ha) Mi.deep) h4 ?_⟩
  rw [List.all_map]
  exact h
theorem callP_ok {g : List W → List Ob → R W} {fn : Nat} (hg : O.call fn = g) {σ : LS} {H H2 : Hp} {m m2 f : List Addr} {cs2 : List Ob} {ws : List W} {vs : List V} {Q : VK} (k2 : Keep H H2 m m2) (r2 : Reps X.K H2 m2 f ws vs) (c2 : Cells X.K H2 m2 f cs2)
    (h2 : Rw (Zs X.K CA (WE Wx σ) H2 m2 f) (Mi.callP O fn ws cs2) (Ps X.K H m f Q)) : spF X.K CA g vs H2 Q (WE Wx σ) := by
  unfold Mi.callP at h2
  split at h2
  · rename_i vs' e1
    refine ⟨vs', [], [], f, derefL_reps (deref_rep c2 _) r2 e1, cells_none c2, ?_⟩
    rw [hg] at h2
    cases e2 : g vs' [] with
    | bad =>
      rw [e2] at h2
      exact h2
    | exn x c1 =>
      rw [e2] at h2
      simp only at h2
      split at h2
      · rename_i hx
        intro cls d H' m1 k c1' xr
        exact h2 cls d H' m2 (keep_pure k) (cells_pure c2 k) (flatX_rep (cells_pure c2 k).lists xr hx)
      · exact h2.elim
    | ok w c1 =>
      rw [e2] at h2
      simp only at h2
      split at h2
      · rename_i v e3
        intro v' H' m1 k o
        exact h2 v' H' m2 (k2.trans (keep_pure k)) ((handed_out c2 k o e3).back k2)
      · exact h2.elim
  · exact h2.elim
section
variable {k n : Nat} {fa : Addr} {fd : FuncData} {ps : List Str} {x : Str} {p : Pos}
theorem te_callP (tk : Takes X Wx) (F : FnOk X.prog X.w X.K X.mg X.base (L2.CX X.prog X.w) k fa fd ps (spF X.K CA (O.call n))) (hr : Room k X.A) (hg : Gl X x) (hm : X.mg x = some (.ref fa)) (hk : PySem.W.keepIn X.K (.ref fa) = true) (hb : Binds X.K fd ps [])
    (ha : PA X (e :: es) (tAs O X.K CA Wx as)) (hdb : (x == ("__debug__" : Str)) = false) (he : starEach (e :: es) X.env = (false, eval e X.env) :: starEach es X.env) (hpl : (backTo pos (starEach es X.env)).any (·.1) = false) :
    PE X (.Call (.Name x p) (e :: es) [] pos) (tE O X.K CA Wx (.callP n as)) :=
  peImp (pe_callS F hr hg hm hk hb (passAt tk) ha hdb he hpl) fun σ H Q ⟨ρ, cs, m, f, env, c, h⟩ => by
    unfold Mi.ev at h
    refine tAs_then env c h fun ws cs2 vs H2 m2 k2 r2 c2 env2 h2 => ?_
    exact callP_ok rfl k2 r2 c2 h2
theorem te_callH (tk : Takes X Wx) (F : FnOk X.prog X.w X.K X.mg X.base (L2.CX X.prog X.w) k fa fd ps (spF X.K CA (O.call n))) (hr : Room k X.A) (hg : Gl X x) (hm : X.mg x = some (.ref fa)) (hk : PySem.W.keepIn X.K (.ref fa) = true) (hb : Binds X.K fd ps [])
    (ha : PA X (e :: es) (tAs O X.K CA Wx as)) (hdb : (x == ("__debug__" : Str)) = false) (he : starEach (e :: es) X.env = (false, eval e X.env) :: starEach es X.env) (hpl : (backTo pos (starEach es X.env)).any (·.1) = false) :
    PE X (.Call (.Name x p) (e :: es) [] pos) (tE O X.K CA Wx (.callH n as)) :=
  peImp (pe_callS F hr hg hm hk hb (passAt tk) ha hdb he hpl) fun σ H Q ⟨ρ, cs, m, f, env, c, h⟩ => by
    unfold Mi.ev at h
    refine tAs_then env c h fun ws cs2 vs H2 m2 k2 r2 c2 env2 h2 => ?_
    exact ⟨ws, cs2, m2, f, r2, c2, h2.imp (fun _ _ z => z) fun _ _ z => z.mono k2⟩
theorem perm_reps {K : PySem.W.Frag} {H : Hp} {m f : List Addr} {ws : List W} {vs : List V} (r : Reps K H m f ws vs) : ∀ pm : List Nat, Reps K H m f (Mi.permute ws pm) (Mi.permute vs pm)
  | [] => .nil
  | i :: pm => by
    have ih := perm_reps r pm
    unfold Mi.permute at ih ⊢
    rw [List.filterMap_cons, List.filterMap_cons]
    cases e : ws[i]? with
    | none =>
      have e2 : vs[i]? = none := by
        rw [List.getElem?_eq_none_iff] at e ⊢
        rw [← r.length]
        exact e
      rw [e2]
      exact ih
    | some w =>
      obtain ⟨v, h1, h2⟩ := r.get e
      rw [h1]
      exact .cons h2 ih
/-- f(k = v, ..), by keywords alone: how they are bound -/
def KPer (K : PySem.W.Frag) (fd : FuncData) (ps ks : List Str) (pm : List Nat) : Prop := ∀ (s : Shared) (ws : List Value), K.In s.heap → (Mi.permute ws pm).length = ps.length → BindsTo s fd ⟨[], ks.zip ws⟩ (ps.zip (Mi.permute ws pm))
theorem perm_vals {zs : List V} {ws : List Value} (r : Vals zs ws) : ∀ pm : List Nat, Vals (Mi.permute zs pm) (Mi.permute ws pm)
  | [] => .nil
  | i :: pm => by
    have ih := perm_vals r pm
    unfold Mi.permute at ih ⊢
    rw [List.filterMap_cons, List.filterMap_cons]
    cases e : zs[i]? with
    | none =>
      have e2 : ws[i]? = none := by
        rw [List.getElem?_eq_none_iff] at e ⊢
        rw [← r.length]
        exact e
      rw [e2]
      exact ih
    | some v =>
      obtain ⟨u, h1, h2⟩ := r.get e
      rw [h1]
      exact .cons h2 ih
theorem run_kw {pins : List (Addr × Obj)} {σ : LS} {H : Hp} {s : Shared} {Q : VK} {us : List Value} {zs : List V} {sp : Sp} {E : XK} {ks : List Str} {pm : List Nat} (F : FnOk X.prog X.w X.K X.mg X.base (L2.CX X.prog X.w) k fa fd ps sp) (hr : Room k X.A) (hb : KPer X.K fd ps ks pm) (hx : PassesAt (L2.CX X.prog X.w) X σ E)
    (I : Inv X pins σ H s) (rz : Vals zs us) (h : sp (Mi.permute zs pm) H Q E) : wpAny (model X.prog X.w) X.A (call (.ref fa) [] (ks.zip us)) (EP X pins σ Q) X.xe s := by
  have r2 := perm_vals rz pm
  have hl := (r2.length.symm.trans (F.len _ _ _ _ h))
  refine wpAny_call (codeAny_mono (F.run X.A X.stack s H ⟨[], ks.zip us⟩ _ _ Q E hr I.env0 (hb s us I.kIn hl) r2 h) fun r s' hq => ?_)
  match r, hq with
  | .error e, hq => exact hx pins H s e s' I hq
  | .ok (.ret u), hq => exact I.after hq
  | .ok .next, hq => exact hq.elim
  | .ok .brk, hq => exact hq.elim
  | .ok .cont, hq => exact hq.elim
/-- f(k = v, ..), by keywords alone -/
theorem te_callPK {ks : List Str} {pm : List Nat} {kws : List Keyword} (tk : Takes X Wx) (F : FnOk X.prog X.w X.K X.mg X.base (L2.CX X.prog X.w) k fa fd ps (spF X.K CA (O.call n))) (hr : Room k X.A) (hg : Gl X x) (hm : X.mg x = some (.ref fa)) (hk : PySem.W.keepIn X.K (.ref fa) = true)
    (hb : KPer X.K fd ps ks pm) (hkw : PK X kws (tAs O X.K CA Wx as)) (hall : (backToKw pos (keywordEach kws X.env)).all (·.1.isSome) = true) (hks : (backToKw pos (keywordEach kws X.env)).filterMap (·.1) = ks)
    (hdb : (x == ("__debug__" : Str)) = false) (hpl : ((backTo pos (starEach [] X.env)).any (·.1) || (backToKw pos (keywordEach kws X.env)).any (·.1.isNone)) = false) :
    PE X (.Call (.Name x p) [] kws pos) (tE O X.K CA Wx (.callPK n as pm)) := by
  refine ⟨fun pins s σ H Q I ⟨ρ, cs, m, f, env, c, h⟩ => ?_⟩
  unfold Mi.ev at h
  refine wpAny_Call_Name_kw (ld_glob I hg hm ?_ hdb)
  refine PySem.W.callWith_KW0 (h₀ := X.base) I.ok.mod.kin hk hall ?_ hpl
  have h' : tAs O X.K CA Wx as σ H (fun zs H2 => spF X.K CA (O.call n) (Mi.permute zs pm) H2 Q (WE Wx σ)) := tAs_then env c h fun ws cs2 vs H2 m2 k2 r2 c2 env2 h2 => callP_ok rfl k2 (perm_reps r2 pm) c2 h2
  refine thn (hkw.run pos pins s σ H _ I h') fun ws s2 ⟨zs, H2, I2, rz, q2⟩ => ⟨I2.kIn, ?_⟩
  rw [hks]
  exact run_kw F hr hb (passAt tk σ) I2 rz q2
theorem tk_nil : PK X [] (tAs O X.K CA Wx .nil) := ⟨fun pos pins s σ H Q I ⟨ρ, cs, m, f, env, c, h⟩ => by
  unfold Mi.evs at h
  exact pk_nil.run pos pins s σ H Q I (h _ H m Keep.refl .nil c)⟩
theorem tk_cons {nm : Option Str} {kpos : Pos} {kws : List Keyword} (ha : PE X e (tE O X.K CA Wx ea)) (hr : PK X kws (tAs O X.K CA Wx as)) : PK X (⟨nm, e, kpos⟩ :: kws) (tAs O X.K CA Wx (.cons ea as)) :=
  ⟨fun pos pins s σ H Q I ⟨ρ, cs, m, f, env, c, h⟩ => by
    unfold Mi.evs at h
    refine (pk_cons ha hr).run pos pins s σ H Q I (tE_then env c h fun w cs1 v H1 m1 k1 o1 env1 h1 => ?_)
    refine tAs_then env1 o1.cells h1 fun ws cs2 vs H2 m2 k2 r2 c2 env2 h2 => ?_
    exact h2 (v :: vs) H2 m2 (k1.trans k2) (.cons (o1.rep.mono k2) r2) c2⟩
end
end
end So
namespace So
open PySem PySem.Spec PyProof.Rows L2
open Mi (W Ob Xn R Orc)
theorem Keep.cellNew {H0 H : Hp} {m0 m : List Addr} {a : Addr} (k : Keep H0 H m0 m) (h : H0 a = none) : Keep H0 H m0 (m ++ [a]) := by
  refine ⟨?_, k.same, k.dom⟩
  obtain ⟨n, e, hn⟩ := k.ext
  refine ⟨n ++ [a], by rw [e, List.append_assoc], fun b hb => ?_⟩
  rcases List.mem_append.mp hb with z | z
  · exact hn b z
  · rw [List.mem_singleton.mp z]
    exact h
section
variable {X : Cx} {O : Orc} {CA : Nat → Addr} {Wx : WX} {a b : Expr} {ea eb : Mi.Ex} {pos : Pos}
/-- a list just made becomes a cell -/
theorem cel_val {K : PySem.W.Frag} {σ : LS} {H : Hp} {Q : VK} (h : tE O K CA Wx (.cel ea) σ H Q) : tE O K CA Wx ea σ H Q := by
  obtain ⟨ρ, cs, m, f, env, c, h⟩ := h
  rw [Mi.ev] at h
  refine tE_then env c h fun w cs1 v H1 m1 k1 o1 env1 h1 => ?_
  cases o1 with
  | old r c1 =>
    have hn : w = Mi.fz w := r.noNew.symm
    cases w <;> first | (cases hn; done) | exact h1 v H1 m1 k1 (.old r c1)
  | @new xs vs a cs' h2 h3 h4 h5 h6 =>
    have h1' : Ps K H m f Q (.ref cs1.length) (cs1 ++ [.lst xs]) := h1
    have hm : (m1 ++ [a])[cs1.length]? = some a := by
      rw [h6.len, List.getElem?_append_right (Nat.le_refl _), Nat.sub_self]
      rfl
    exact h1' _ H1 (m1 ++ [a]) (k1.cellNew h2) (.old (.ref hm) (h6.grow h3 h4 h5))
theorem te_cel (ha : PE X a (tE O X.K CA Wx ea)) : PE X a (tE O X.K CA Wx (.cel ea)) := peImp ha fun _ _ _ h => cel_val h
end
end So
end S_Exps2

section S_EnumT
set_option Elab.async false
set_option linter.all false
set_option maxRecDepth 100000
set_option maxHeartbeats 4000000
/-! EnumT: enumerate over a tuple. -/
namespace So
open PySem PySem.Spec PyProof.Rows L2
open Sem (wp)
open AutoSeq1 (wpAny_loadPart')
open Mi (W Ob Xn R Orc)
def tiObj (t : Addr) : Obj := { cls := .type "tuple_iterator", data := .fields #[.ref t, .int 0 0] }
def enObj (i : Addr) : Obj := { cls := .type "enumerate", data := .fields #[.none, .bool false, .ref i, rawInt 0, .none, .none] }
theorem enum_newT (t : Addr) (items : Array Value) (ob : Obj) (hT : ob.cls = .type "tuple" ∧ ∃ n, ob.data = .seq items n) :
    Meets (Builtin.«enumerate.__new__» ⟨[.type "enumerate", .ref t], []⟩) (fun _ R s => s.heap.get? t = some ob ∧ R (.ok (.ret (.ref (s.heap.push (tiObj t)).objs.size))) { s with heap := (s.heap.push (tiObj t)).push (enObj s.heap.objs.size) }) :=
  .of_wp fun prog w A R s h => by
    obtain ⟨hp, g, d, tk, os⟩ := s
    obtain ⟨hl, h⟩ := h
    have hsub := sub_enumerate
    obtain ⟨hc, n, hd⟩ := hT
    obtain ⟨c, dct, dt, sl⟩ := ob
    simp only at hc hd
    subst hc hd
    have hL : Heap.IsTuple (Shared.heap ⟨hp, g, d, tk, os⟩) t items := ⟨_, hl, rfl, n, rfl⟩
    wp_walk using wpAny_loadPart' hl
    refine wpAny_stack_any fun st => wpAny_pure ?_
    split
    · rename_i c _ _ _ _ _
      cases (c == Value.type "enumerate")
      all_goals
        wp_walk using wpAny_loadPart' hl, wpAny_pyIter_tuple hL
        exact ⟨_, rfl, h⟩
    · wp_walk using wpAny_loadPart' hl, wpAny_pyIter_tuple hL
      exact ⟨_, rfl, h⟩
theorem call_enumT {prog : Program} {w : World} {A : Around} {E : Value → Shared → Prop} {s : Shared} {t : Addr} {items : Array Value} {Q : Value → Shared → Prop} (hL : IsTup s.heap t items)
    (h : ∀ h', IsEnum h' (s.heap.objs.size + 1) s.heap.objs.size 0 .none → h'.IsTupleIter s.heap.objs.size t 0 → (∀ b o, s.heap.get? b = some o → h'.get? b = some o) → Q (.ref (s.heap.objs.size + 1)) { s with heap := h' }) :
    wpAny (model prog w) A (call (.type "enumerate") [.ref t]) Q E s := by
  obtain ⟨ob, hl, hc, n, hd⟩ := (show s.heap.IsTuple t items from hL)
  refine callType_new F.called_enumerate (by decide) (F.typeCall_enumerate_1 _) (F.newCall_enumerate_1 _) (fun obj => F.args_object_init_2 obj _) F.entry_enumerate_new (enum_newT t items ob ⟨hc, n, hd⟩) ?_
  have hz : (s.heap.push (tiObj t)).objs.size = s.heap.objs.size + 1 := Heap.size_push ..
  have he : IsEnum ((s.heap.push (tiObj t)).push (enObj s.heap.objs.size)) (s.heap.objs.size + 1) s.heap.objs.size 0 .none := by
    have q := Heap.get?_push_size (s.heap.push (tiObj t)) (o := enObj s.heap.objs.size) rfl
    rw [hz] at q
    exact q
  refine ⟨hl, ?_⟩
  rw [hz]
  exact ⟨⟨_, he, rfl⟩, h _ he ⟨_, Heap.get?_push_of_some _ (Heap.get?_push_size _ rfl), rfl, rfl⟩ fun b o x => Heap.get?_push_of_some _ (Heap.get?_push_of_some _ x)⟩
/-- the tuple at a, each item in a new pair -/
def IteT (K : PySem.W.Frag) (a : Addr) : It :=
  ⟨fun i H => ∃ (xs : List V) (x : V), SqT K H a xs ∧ xs[i]? = some x, fun i H v H' => ∃ T x, v = .ref T ∧ H T = none ∧ H' = upd H T (.tup [.int (i : Nat), x]) ∧ ∀ xs, SqT K H a xs → xs[i]? = some x, fun i H => ∃ xs : List V, SqT K H a xs ∧ xs.length = i⟩
theorem turn_enumT {P : Program} {w : World} {K : PySem.W.Frag} {elts : List Expr} {kk : Nat} {tpos : Pos} (a e it : Addr) (hae : a ≠ e) (hai : a ≠ it) :
    Turn P w K (.Tuple elts kk tpos) (IteT K a) [e, it] e (fun i h => (∃ old, IsEnum h e it ((i : Nat) : Int) old) ∧ h.IsTupleIter it a i ∧ e ≠ it) where
  mem := by simp
  obj := fun i h st b hb => by
    obtain ⟨⟨old, he⟩, ⟨o, ho, hc, hd⟩, _⟩ := st
    have e' : b = e ∨ b = it := by simpa using hb
    rcases e' with rfl | rfl
    · exact ⟨_, he, fun v q => nomatch q⟩
    · exact ⟨o, ho, fun v q => by rw [hd] at q; cases q⟩
  keep := fun i h h' st k => by
    obtain ⟨⟨old, he⟩, hi, hne⟩ := st
    exact ⟨⟨old, k e (by simp) _ he⟩, hi.at fun o q => k it (by simp) o q, hne⟩
  item := by
    intro X hP hw hK hc i pins s σ H E I hf st hg
    subst hP hw hK
    obtain ⟨⟨old, he⟩, hit, hne⟩ := st
    obtain ⟨xs, x, hq, hx⟩ := hg
    obtain ⟨its, rv, p, hz⟩ := I.tuple hq
    obtain ⟨u, hu, ru⟩ := rv.get hx
    have hel : e < s.heap.objs.size := Heap.lt_size he
    have hil : it < s.heap.objs.size := by
      obtain ⟨_, q, _⟩ := hit
      exact Heap.lt_size q
    have hh : X.A.in1.handled = none := I.ok.hd hc
    have hlt : i < its.toArray.size := by
      have := (List.getElem?_eq_some_iff.mp hu).1
      simpa using this
    refine wpAny_pyNext_enum_itemD (Draws.tuple (w := X.w) hh it a hai its.toArray) he ⟨hit, p⟩ hlt hne (by simp [hne, Ne.symm hae]) fun u' h' tk hP ho hst' hT hsz hk => ?_
    have eu : u' = u := by
      have q : its.toArray[i]? = some u' := hP
      have q2 : its.toArray[i]? = some u := by simpa using hu
      rw [q2] at q
      exact (Option.some.inj q).symm
    subst eu
    refine ⟨_, rfl, wpAny_letOwnedTupleGo_enum (s := { s with heap := h', toks := tk + 1 }) ho fun h'' he' sb => ?_⟩
    have hT2 : h''.get? s.heap.objs.size = some { cls := .type "tuple", data := .seq #[.int i tk, u'] } := (sb.2 _ (Nat.ne_of_gt hel)).trans hT
    have new : ObjOk X.prog X.w (upd H s.heap.objs.size (.tup [.int (i : Nat), x])) h'' s.heap.objs.size (.tup [.int (i : Nat), x]) :=
      ⟨by show 2 ≤ sizeLine; decide, [.int i tk, u'], .cons ⟨_, rfl⟩ (.cons ru .nil), ⟨_, hT2, rfl, _, rfl⟩⟩
    have I1 : Inv X pins σ (upd H s.heap.objs.size (.tup [.int (i : Nat), x])) { s with heap := h'', toks := tk + 1 } :=
      I.turnedNew (ch := [e, it]) (fun b ob hb q => (sb.2 b (fun z => hb (by simp [z]))).trans (hk b ob (fun z => hb (by simp [z])) (fun z => hb (by simp [z])) q)) hf (Nat.le_refl _) new
    have hit' := hst'.1
    refine ⟨.ref s.heap.objs.size, _, I1, rfl, ⟨_, x, rfl, I.hok.fresh (Nat.le_refl _), rfl, fun ys hy => by rw [I.tuple_inj hy hq]; exact hx⟩, ⟨⟨u', ?_⟩, hit'.at fun o q => (sb.2 it (Ne.symm hne)).trans q, hne⟩, fun b hb => ?_⟩
    · have e1 : ((i + 1 : Nat) : Int) = (i : Int) + 1 := by omega
      rw [e1]
      exact he'
    · have e' : b = e ∨ b = it := by simpa using hb
      have hb' : b < s.heap.objs.size := by rcases e' with rfl | rfl <;> assumption
      rw [upd_ne (Nat.ne_of_lt hb')]
      exact (hf b hb).1
  done := by
    intro X hP hw hK hc i pins s σ H E I hf st hg
    subst hP hw hK
    obtain ⟨⟨old, he⟩, hit, hne⟩ := st
    obtain ⟨xs, hq, hx⟩ := hg
    obtain ⟨its, rv, p, hz⟩ := I.tuple hq
    obtain ⟨f0, f1, f2, f3, f4, f5⟩ := hf it (by simp)
    have hl := rv.length
    have e1 : its.toArray.size = i := by simp; omega
    subst e1
    have hh : X.A.in1.handled = none := I.ok.hd hc
    exact wpAny_pyNext_enum_endD (Draws.tuple (w := X.w) hh it a hai its.toArray) he ⟨hit, p⟩ fun h' eb => ⟨rfl, I.turned (t' := s.toks) (fun b o hb q => eb b o hb q) f0 f1 f3 f4 f5⟩
  self := fun A i s Q E st h => by
    obtain ⟨⟨_, he⟩, _⟩ := st
    exact wpAny_pyIter_enum he h
/-- enumerate(x), x a list or a tuple -/
def iEnumA (K : PySem.W.Frag) (ta : TA) : TI := fun σ H R => ta σ H fun vs H1 => ∃ a xs, vs = [.ref a] ∧ ((SqL K H1 a xs ∧ R (Ite K a) H1) ∨ (SqT K H1 a xs ∧ R (IteT K a) H1))
theorem pi_enumA {X : Cx} {e : Expr} {ta : TA} {p pos tpos : Pos} {elts : List Expr} {kk : Nat} (hg : Gl X "enumerate") (hm : X.mg "enumerate" = none) (ha : PA X [e] ta) (hs : starEach [e] X.env = [(false, eval e X.env)] := by rfl) :
    PI X (.Tuple elts kk tpos) (.Call (.Name "enumerate" p) [e] [] pos) (iEnumA X.K ta) := by
  refine ⟨fun pins s σ H R I h => ?_⟩
  refine Call_ (ld_blt I hg hm PyProof.Rows.boot_enumerate (PyProof.Rows.callWith_type1 (thn (ha.run pos pins s σ H _ I h) fun us s1 ⟨vs, H1, I1, r1, q1⟩ => ?_) hs rfl))
  obtain ⟨a, xs, ex, q1⟩ := q1
  subst ex
  cases r1 with
  | cons r rr =>
    cases rr
    cases r
    have fr2 : ∀ b ∈ [s1.heap.objs.size + 1, s1.heap.objs.size], FpOk X pins H1 b := fun b hb => by
      have e' : b = s1.heap.objs.size + 1 ∨ b = s1.heap.objs.size := by simpa using hb
      have hle : s1.heap.objs.size ≤ b := by omega
      exact I1.fpOk hle (I1.hok.fresh hle)
    rcases q1 with ⟨hq, q⟩ | ⟨hq, q⟩
    · obtain ⟨its, rv, p', hz⟩ := I1.list hq
      refine call_enumerate_list p'.isList fun h' he hit hsz hk => wpAny_pyIter_enum he ?_
      exact ⟨s1.heap.objs.size + 1, [s1.heap.objs.size + 1, s1.heap.objs.size], _, _, H1, rfl, I1.kept (t' := s1.toks) hk, turn_enum a (s1.heap.objs.size + 1) s1.heap.objs.size, ⟨⟨.none, he⟩, hit, Nat.succ_ne_self _⟩, fr2, q⟩
    · obtain ⟨its, rv, p', hz⟩ := I1.tuple hq
      have hlt : a < s1.heap.objs.size := by
        obtain ⟨o, ho, _⟩ := id p'
        exact Heap.lt_size ho
      refine call_enumT p' fun h' he hit hk => wpAny_pyIter_enum he ?_
      exact ⟨s1.heap.objs.size + 1, [s1.heap.objs.size + 1, s1.heap.objs.size], _, _, H1, rfl, I1.kept (t' := s1.toks) hk, turn_enumT a (s1.heap.objs.size + 1) s1.heap.objs.size (Nat.ne_of_lt (Nat.lt_succ_of_lt hlt)) (Nat.ne_of_lt hlt), ⟨⟨.none, he⟩, hit, Nat.succ_ne_self _⟩, fr2, q⟩
end So
end S_EnumT

section S_Its
set_option Elab.async false
set_option linter.all false
set_option maxRecDepth 100000
set_option maxHeartbeats 4000000
/-! Its: what is walked; comprehensions. -/
namespace So
open PySem PySem.Spec PyProof.Rows L2
open Mi (W Ob Xn R Orc)
/-- later, perhaps with more that is not spoken of -/
structure Later (K : PySem.W.Frag) (H : Hp) (m f : List Addr) (H1 : Hp) (m1 f1 : List Addr) : Prop where
  keep : Keep H H1 m m1
  rep : ∀ w v, Rep K H m f w v → Rep K H1 m1 f1 w v
section
variable {K : PySem.W.Frag} {H H1 H2 : Hp} {m m1 m2 f f1 f2 : List Addr}
theorem Later.of (k : Keep H H1 m m1) : Later K H m f H1 m1 f := ⟨k, fun _ _ r => r.mono k⟩
theorem Later.far {D : Addr} (hD : H D = none) (k : Keep H H1 m m1) : Later K H m f H1 m1 (D :: f) := ⟨k, fun _ _ r => r.far hD k⟩
theorem Later.trans (a : Later K H m f H1 m1 f1) (b : Later K H1 m1 f1 H2 m2 f2) : Later K H m f H2 m2 f2 := ⟨a.keep.trans b.keep, fun w v r => b.rep w v (a.rep w v r)⟩
theorem Later.reps (l : Later K H m f H1 m1 f1) : ∀ {ws : List W} {vs : List V}, Reps K H m f ws vs → Reps K H1 m1 f1 ws vs
  | _, _, .nil => .nil
  | _, _, .cons r t => .cons (l.rep _ _ r) (Later.reps l t)
theorem Later.env (l : Later K H m f H1 m1 f1) {ρ : ME} {σ : LS} (e : EnvR K H m f ρ σ) : EnvR K H1 m1 f1 ρ σ := ⟨e.1, fun i w h => by
  obtain ⟨v, h1, h2⟩ := e.2 i w h
  exact ⟨v, h1, l.rep _ _ h2⟩⟩
end
/-- J walks the items xs, whatever happens to the cells -/
def LiveI (K : PySem.W.Frag) (xs : List W) (J : It) (H : Hp) (m f : List Addr) : Prop := ∀ H1 m1 f1 cs1, Later K H m f H1 m1 f1 → Cells K H1 m1 f1 cs1 →
  (∀ i, i < xs.length → J.go i H1) ∧ J.stop xs.length H1 ∧ ∀ i v H2, i < xs.length → J.yld i H1 v H2 → Keep H1 H2 m1 m1 ∧ Cells K H2 m1 f1 cs1 ∧ ∃ w, xs[i]? = some w ∧ Rep K H2 m1 f1 w v
def Live (K : PySem.W.Frag) (s : Mi.Src) (J : It) (H : Hp) (m f : List Addr) : Prop :=
  match s with
  | .im xs => LiveI K xs J H m f
  | .ce n _ => ∃ a, m[n]? = some a ∧ J = Itl K a
section
variable {K : PySem.W.Frag} {H H1 : Hp} {m m1 f f1 : List Addr} {xs ys : List W} {vs : List V} {a b : Addr}
/-- the sequence at a stands -/
def Has (S : Hp → Addr → List V → Prop) (K : PySem.W.Frag) (a : Addr) (xs : List W) (H : Hp) (m f : List Addr) : Prop := ∀ H1 m1 f1, Later K H m f H1 m1 f1 → ∃ vs, S H1 a vs ∧ Reps K H1 m1 f1 xs vs
theorem has_tup {w : W} {xs : List W} {v : V} (r : Rep K H m f (Mi.fz w) v) (e : Mi.stillW w = some (true, xs)) : ∃ a, v = .ref a ∧ Has (SqT K) K a xs H m f := by
  cases w <;> first | (cases e; done) | skip
  simp only [Mi.stillW] at e
  cases e
  obtain ⟨a, vs, rfl, _, _⟩ := SqT.ofRep (show Rep K H m f (.tup _) v from r)
  refine ⟨a, rfl, fun H1 m1 f1 l => ?_⟩
  obtain ⟨a', vs', e, h1, h2⟩ := SqT.ofRep (l.rep _ _ (show Rep K H m f (.tup _) _ from r))
  cases e
  exact ⟨vs', h1, h2⟩
theorem sq_lst (r : Rep K H m f (.lst xs) (.ref a)) : ∃ vs, SqL K H a vs ∧ Reps K H m f xs vs := by
  cases r with
  | lst h1 h2 h3 h4 => exact ⟨_, .inl (.inl h1), h4⟩
theorem sq_scr (r : Rep K H m f (.scr xs) (.ref a)) : ∃ vs, SqL K H a vs ∧ Reps K H m f xs vs := by
  cases r with
  | scr h1 h2 h3 h4 => exact ⟨_, .inl h1, h4⟩
  | kscr h1 h2 => exact ⟨_, .inr h1, h2⟩
theorem has_lst {w : W} {xs : List W} {v : V} (r : Rep K H m f (Mi.fz w) v) (e : Mi.stillW w = some (false, xs)) : ∃ a, v = .ref a ∧ Has (SqL K) K a xs H m f := by
  have lst : ∀ {ys : List W}, Rep K H m f (.lst ys) v → ys = xs → ∃ a, v = .ref a ∧ Has (SqL K) K a xs H m f := fun {ys} r e => by
    subst e
    cases r with
    | lst h1 h2 h3 h4 => exact ⟨_, rfl, fun H1 m1 f1 l => sq_lst (l.rep _ _ (.lst h1 h2 h3 h4))⟩
  cases w <;> first | (cases e; done) | skip
  · simp only [Mi.stillW] at e
    cases e
    exact lst r rfl
  · simp only [Mi.stillW] at e
    cases e
    exact lst r rfl
  · simp only [Mi.stillW] at e
    cases e
    have r' : Rep K H m f (.scr xs) v := r
    cases r' with
    | scr h1 h2 h3 h4 => exact ⟨_, rfl, fun H1 m1 f1 l => sq_scr (l.rep _ _ (.scr h1 h2 h3 h4))⟩
    | kscr h1 h2 => exact ⟨_, rfl, fun H1 m1 f1 l => sq_scr (l.rep _ _ (.kscr h1 h2))⟩
/-- items in order, the heap as it was -/
theorem live_same {S : Hp → Addr → List V → Prop} (h : Has S K a xs H m f) {J : It} (hgo : ∀ i H vs x, S H a vs → vs[i]? = some x → J.go i H) (hst : ∀ H vs, S H a vs → J.stop vs.length H) (hy : ∀ i H v H' vs, S H a vs → J.yld i H v H' → H' = H ∧ vs[i]? = some v) : LiveI K xs J H m f := by
  intro H1 m1 f1 cs1 l c
  obtain ⟨vs, s1, r1⟩ := h H1 m1 f1 l
  have hl := r1.length
  refine ⟨fun i hi => ?_, by rw [hl]; exact hst H1 vs s1, fun i v H2 hi y => ?_⟩
  · obtain ⟨v, e, _⟩ := r1.get (List.getElem?_eq_getElem hi)
    exact hgo i H1 vs v s1 e
  · obtain ⟨e, g⟩ := hy i H1 v H2 vs s1 y
    subst e
    obtain ⟨w, g1, g2⟩ := r1.getV g
    exact ⟨Keep.refl, c, w, g1, g2⟩
theorem live_list (h : Has (SqL K) K a xs H m f) : LiveI K xs (Itl K a) H m f := live_same h (fun i H vs x s e => ⟨vs, x, s, e⟩) (fun H vs s => ⟨vs, s, Nat.le_refl _⟩) fun i H v H' vs s y => ⟨y.1, y.2 vs s⟩
theorem live_tup (h : Has (SqT K) K a xs H m f) : LiveI K xs (Itt K a) H m f := live_same h (fun i H vs x s e => ⟨vs, x, s, e⟩) (fun H vs s => ⟨vs, s, Nat.le_refl _⟩) fun i H v H' vs s y => ⟨y.1, y.2 vs s⟩
theorem live_rev {S : Hp → Addr → List V → Prop} (h : Has S K a xs H m f) {J : It} (hgo : ∀ i H vs x, S H a vs → vs.length = xs.length → vs[vs.length - 1 - i]? = some x → i < vs.length → J.go i H) (hst : ∀ H, J.stop xs.length H) (hy : ∀ i H v H' vs, S H a vs → vs.length = xs.length → J.yld i H v H' → H' = H ∧ vs[vs.length - 1 - i]? = some v) : LiveI K xs.reverse J H m f := by
  intro H1 m1 f1 cs1 l c
  obtain ⟨vs, s1, r1⟩ := h H1 m1 f1 l
  have hl := r1.length
  rw [List.length_reverse]
  refine ⟨fun i hi => ?_, hst H1, fun i v H2 hi y => ?_⟩
  · have hj : vs.length - 1 - i < vs.length := by omega
    exact hgo i H1 vs _ s1 hl.symm (List.getElem?_eq_getElem hj) (by omega)
  · obtain ⟨e, g⟩ := hy i H1 v H2 vs s1 hl.symm y
    subst e
    obtain ⟨w, g1, g2⟩ := r1.getV g
    refine ⟨Keep.refl, c, w, ?_, g2⟩
    rw [List.getElem?_reverse hi, ← g1, hl]
theorem live_revL (h : Has (SqL K) K a xs H m f) {n : Nat} (hn : n = xs.length) : LiveI K xs.reverse (Itv K a n) H m f := by
  subst hn
  refine live_rev h (fun i H vs x s hl e hi => ⟨by omega, vs, x, s, by rw [← hl]; exact e⟩) (fun H => Nat.le_refl _) fun i H v H' vs s hl y => ⟨y.1, by rw [hl]; exact y.2 vs s⟩
theorem live_revT (h : Has (SqT K) K a xs H m f) {n : Nat} (hn : n = xs.length) : LiveI K xs.reverse (RT.ItvT K a n) H m f := by
  subst hn
  refine live_rev h (fun i H vs x s hl e hi => ⟨by omega, vs, x, s, by rw [← hl]; exact e⟩) (fun H => Nat.le_refl _) fun i H v H' vs s hl y => ⟨y.1, by rw [hl]; exact y.2 vs s⟩
theorem enumW_len : ∀ (xs : List W) (k : Nat), (Mi.enumW k xs).length = xs.length
  | [], _ => rfl
  | _ :: xs, k => congrArg (· + 1) (enumW_len xs (k + 1))
theorem enumW_get : ∀ (xs : List W) (k i : Nat) (w : W), xs[i]? = some w → (Mi.enumW k xs)[i]? = some (.tup [.int ((k + i : Nat) : Int), w])
  | [], _, _, _, h => by simp at h
  | x :: xs, k, 0, w, h => by
    simp at h
    subst h
    rfl
  | x :: xs, k, i + 1, w, h => by
    have q := enumW_get xs (k + 1) i w (by simpa using h)
    have e : k + 1 + i = k + (i + 1) := by omega
    rw [e] at q
    simpa [Mi.enumW] using q
theorem live_enum {S : Hp → Addr → List V → Prop} (h : Has S K a xs H m f) {J : It} (hgo : ∀ i H vs x, S H a vs → vs[i]? = some x → J.go i H) (hst : ∀ H vs, S H a vs → J.stop vs.length H)
    (hy : ∀ i H v H' vs, S H a vs → J.yld i H v H' → ∃ T x, v = .ref T ∧ H T = none ∧ H' = upd H T (.tup [.int (i : Nat), x]) ∧ vs[i]? = some x) : LiveI K (Mi.enumW 0 xs) J H m f := by
  intro H1 m1 f1 cs1 l c
  obtain ⟨vs, s1, r1⟩ := h H1 m1 f1 l
  have hl := r1.length
  rw [enumW_len]
  refine ⟨fun i hi => ?_, by rw [hl]; exact hst H1 vs s1, fun i v H2 hi y => ?_⟩
  · obtain ⟨v, e, _⟩ := r1.get (List.getElem?_eq_getElem hi)
    exact hgo i H1 vs v s1 e
  · obtain ⟨T, x, e, hT, e2, g⟩ := hy i H1 v H2 vs s1 y
    subst e e2
    obtain ⟨w, g1, g2⟩ := r1.getV g
    refine ⟨Keep.new hT, c.laid hT, _, enumW_get xs 0 i w g1, ?_⟩
    rw [Nat.zero_add]
    exact rep_tup c hT (.cons (.int _) (.cons g2 .nil))
theorem live_enumL (h : Has (SqL K) K a xs H m f) : LiveI K (Mi.enumW 0 xs) (Ite K a) H m f := live_enum h (fun i H vs x s e => ⟨vs, x, s, e⟩) (fun H vs s => ⟨vs, s, Nat.le_refl _⟩) fun i H v H' vs s y => by
  obtain ⟨T, x, h1, h2, h3, h4⟩ := y
  exact ⟨T, x, h1, h2, h3, h4 vs s⟩
theorem live_enumT (h : Has (SqT K) K a xs H m f) : LiveI K (Mi.enumW 0 xs) (IteT K a) H m f := live_enum h (fun i H vs x s e => ⟨vs, x, s, e⟩) (fun H vs s => ⟨vs, s, rfl⟩) fun i H v H' vs s y => by
  obtain ⟨T, x, h1, h2, h3, h4⟩ := y
  exact ⟨T, x, h1, h2, h3, h4 vs s⟩
theorem zipW_len : ∀ (xs ys : List W), (Mi.zipW xs ys).length = min xs.length ys.length
  | [], _ => by simp [Mi.zipW]
  | _ :: _, [] => by simp [Mi.zipW]
  | _ :: xs, _ :: ys => by
    have := zipW_len xs ys
    simp only [Mi.zipW, List.length_cons]
    omega
theorem zipW_get : ∀ (xs ys : List W) (i : Nat) (w u : W), xs[i]? = some w → ys[i]? = some u → (Mi.zipW xs ys)[i]? = some (.tup [w, u])
  | [], _, _, _, _, h, _ => by simp at h
  | _ :: _, [], _, _, _, _, h => by simp at h
  | x :: xs, y :: ys, 0, w, u, h, h' => by
    simp at h h'
    subst h h'
    rfl
  | x :: xs, y :: ys, i + 1, w, u, h, h' => by
    simpa [Mi.zipW] using zipW_get xs ys i w u (by simpa using h) (by simpa using h')
theorem live_zip {S : Hp → Addr → List V → Prop} (h : Has S K a xs H m f) (h' : Has S K b ys H m f) {J : It} (hgo : ∀ i H vs us x y, S H a vs → S H b us → vs[i]? = some x → us[i]? = some y → J.go i H) (hst : ∀ H vs us, S H a vs → S H b us → J.stop (min vs.length us.length) H)
    (hy : ∀ i H v H' vs us, S H a vs → S H b us → J.yld i H v H' → ∃ T x y, v = .ref T ∧ H T = none ∧ H' = upd H T (.tup [x, y]) ∧ vs[i]? = some x ∧ us[i]? = some y) : LiveI K (Mi.zipW xs ys) J H m f := by
  intro H1 m1 f1 cs1 l c
  obtain ⟨vs, s1, r1⟩ := h H1 m1 f1 l
  obtain ⟨us, s2, r2⟩ := h' H1 m1 f1 l
  have hl := r1.length
  have hl2 := r2.length
  rw [zipW_len]
  refine ⟨fun i hi => ?_, by rw [hl, hl2]; exact hst H1 vs us s1 s2, fun i v H2 hi y => ?_⟩
  · obtain ⟨v, e, _⟩ := r1.get (List.getElem?_eq_getElem (show i < xs.length by omega))
    obtain ⟨u, e', _⟩ := r2.get (List.getElem?_eq_getElem (show i < ys.length by omega))
    exact hgo i H1 vs us v u s1 s2 e e'
  · obtain ⟨T, x, z, e, hT, e2, g, g'⟩ := hy i H1 v H2 vs us s1 s2 y
    subst e e2
    obtain ⟨w, g1, g2⟩ := r1.getV g
    obtain ⟨u, g3, g4⟩ := r2.getV g'
    exact ⟨Keep.new hT, c.laid hT, _, zipW_get xs ys i w u g1 g3, rep_tup c hT (.cons g2 (.cons g4 .nil))⟩
theorem live_zipL (h : Has (SqL K) K a xs H m f) (h' : Has (SqL K) K b ys H m f) : LiveI K (Mi.zipW xs ys) (Itz K a b) H m f :=
  live_zip h h' (fun i H vs us x y s s' e e' => ⟨vs, us, x, y, s, s', e, e'⟩) (fun H vs us s s' => ⟨vs, us, s, s', by omega⟩) fun i H v H' vs us s s' y => by
    obtain ⟨T, x, z, h1, h2, h3, h4, h5⟩ := y
    exact ⟨T, x, z, h1, h2, h3, h4 vs s, h5 us s'⟩
theorem live_zipT (h : Has (SqT K) K a xs H m f) (h' : Has (SqT K) K b ys H m f) : LiveI K (Mi.zipW xs ys) (RZ.ItzT K a b) H m f :=
  live_zip h h' (fun i H vs us x y s s' e e' => ⟨vs, us, x, y, s, s', e, e'⟩) (fun H vs us s s' => ⟨vs, us, s, s', by omega⟩) fun i H v H' vs us s s' y => by
    obtain ⟨T, x, z, h1, h2, h3, h4, h5⟩ := y
    exact ⟨T, x, z, h1, h2, h3, h4 vs s, h5 us s'⟩
theorem live_range (lo : Int) (n : Nat) : LiveI K (Mi.rangeI lo n) (Itr lo n) H m f := by
  intro H1 m1 f1 cs1 l c
  have hl : (Mi.rangeI lo n).length = n := by simp [Mi.rangeI]
  rw [hl]
  refine ⟨fun i hi => hi, Nat.le_refl _, fun i v H2 hi y => ?_⟩
  obtain ⟨e, e2⟩ := y
  subst e e2
  exact ⟨Keep.refl, c, .int (lo + (i : Int)), by simp [Mi.rangeI, hi], .int _⟩
end
/-- the reading of what is walked -/
def tI (O : Orc) (K : PySem.W.Frag) (CA : Nat → Addr) (Wx : WX) (it : Mi.It) : TI := fun σ H J => ∃ (ρ : ME) (cs : List Ob) (m f : List Addr), EnvR K H m f ρ σ ∧ Cells K H m f cs ∧
  Rw (Zs K CA (fun cls d H => Wx cls d σ H) H m f) (Mi.evI O ρ it cs) (fun s cs' => ∀ j H' m', Keep H H' m m' → Cells K H' m' f cs' → Live K s j H' m' f → J j H')
theorem piImp {X : Cx} {tg e : Expr} {t t' : TI} (h : PI X tg e t) (i : ∀ σ H Q, t' σ H Q → t σ H Q) : PI X tg e t' := ⟨fun pins s σ H Q I hw => h.run pins s σ H Q I (i σ H Q hw)⟩
/-- a list or a tuple -/
def iSeq (K : PySem.W.Frag) (tl : TE) : TI := fun σ H J => tl σ H fun x H1 => ∃ a, x = .ref a ∧ (((∃ xs, SqL K H1 a xs) ∧ J (Itl K a) H1) ∨ ((∃ xs, SqT K H1 a xs) ∧ J (Itt K a) H1))
section
variable {X : Cx} {O : Orc} {CA : Nat → Addr} {Wx : WX} {a b c e tg : Expr} {ea eb ec : Mi.Ex} {pos : Pos}
theorem pi_seq {tl : TE} (hl : PE X e tl) : PI X tg e (iSeq X.K tl) := by
  refine ⟨fun pins s σ H R I h => thn (hl.run pins s σ H _ I h) fun v s1 ⟨x, H1, I1, r1, a, ex, q⟩ => ?_⟩
  subst ex
  cases r1
  rcases q with ⟨⟨xs, hs⟩, q⟩ | ⟨⟨xs, hs⟩, q⟩
  · obtain ⟨its, rv, p, hz⟩ := I1.list hs
    exact wpAny_pyIter_list p.isList (pi_one (tk := s1.toks) I1 _ (turn_list a _) ⟨_, Heap.get?_push_size _ rfl, rfl, rfl⟩ q)
  · obtain ⟨its, rv, p, hz⟩ := I1.tuple hs
    exact wpAny_pyIter_tuple (show s1.heap.IsTuple a its.toArray from p) (pi_one (tk := s1.toks) I1 _ (turn_tuple a _) ⟨_, Heap.get?_push_size _ rfl, rfl, rfl⟩ q)
theorem Has.here {S : Hp → Addr → List V → Prop} {K : PySem.W.Frag} {a : Addr} {xs : List W} {H : Hp} {m f : List Addr} (h : Has S K a xs H m f) : ∃ vs, S H a vs ∧ Reps K H m f xs vs := h H m f ⟨Keep.refl, fun _ _ r => r⟩
theorem ti_ex (ha : PE X e (tE O X.K CA Wx ea)) : PI X tg e (tI O X.K CA Wx (.ex ea)) := piImp (pi_seq ha) fun σ H J ⟨ρ, cs, m, f, env, c, h⟩ => by
  unfold Mi.evI at h
  refine tE_then env c h fun w cs1 v H1 m1 k1 o1 env1 h1 => ?_
  obtain ⟨s, es, q⟩ := h1.ofO
  have still : ∀ (t : Bool) (xs : List W), Mi.stillW w = some (t, xs) → s = .im xs → ∃ a, v = .ref a ∧ (((∃ xs, SqL X.K H1 a xs) ∧ J (Itl X.K a) H1) ∨ ((∃ xs, SqT X.K H1 a xs) ∧ J (Itt X.K a) H1)) := fun t xs e1 e2 => by
    subst e2
    cases t with
    | true =>
      obtain ⟨a, e, hh⟩ := has_tup o1.rep e1
      obtain ⟨vs, s1, _⟩ := hh.here
      exact ⟨a, e, .inr ⟨⟨vs, s1⟩, q _ H1 m1 k1 o1.cells (live_tup hh)⟩⟩
    | false =>
      obtain ⟨a, e, hh⟩ := has_lst o1.rep e1
      obtain ⟨vs, s1, _⟩ := hh.here
      exact ⟨a, e, .inl ⟨⟨vs, s1⟩, q _ H1 m1 k1 o1.cells (live_list hh)⟩⟩
  cases w <;> first | (cases es; done) | (cases es; exact still _ _ rfl rfl) | skip
  rename_i n
  simp only [Mi.srcOf, Option.map_eq_some_iff] at es
  obtain ⟨xs, ex, e2⟩ := es
  subst e2
  cases o1 with
  | old r c1 =>
    cases r with
    | @ref n a hm =>
      obtain ⟨vs, g1, g2⟩ := c1.lst hm ex
      exact ⟨a, rfl, .inl ⟨⟨vs, .of g1⟩, q _ H1 m1 k1 c1 ⟨a, hm, rfl⟩⟩⟩
theorem rangeW_some {x y : W} {xs : List W} (h : Mi.rangeW x y = some xs) : ∃ a b : Int, x = .int a ∧ y = .int b ∧ (-(2 ^ 62) ≤ a ∧ a < 2 ^ 62 ∧ -(2 ^ 62) ≤ b ∧ b < 2 ^ 62) ∧ (b - a).toNat ≤ 2 ^ 24 ∧ xs = Mi.rangeI a (b - a).toNat := by
  cases x <;> first | (cases h; done) | skip
  cases y <;> first | (cases h; done) | skip
  rename_i a b
  simp only [Mi.rangeW] at h
  split at h
  · rename_i hb
    cases h
    simp only [Mi.okR, Bool.and_eq_true, decide_eq_true_eq] at hb
    exact ⟨a, b, rfl, rfl, by omega, by omega, rfl⟩
  · cases h
theorem ti_range {p : Pos} (hg : Gl X "range") (hm : X.mg "range" = none) (ha : PE X a (tE O X.K CA Wx ea)) (hs : starEach [a] X.env = (false, eval a X.env) :: starEach [] X.env) : PI X tg (.Call (.Name "range" p) [a] [] pos) (tI O X.K CA Wx (.range ea)) :=
  piImp (pi_range1 hg hm (pa_cons ha pa_nil hs) hs) fun σ H J ⟨ρ, cs, m, f, env, c, h⟩ => by
    unfold Mi.evI at h
    refine tE_then env c h fun w cs1 v H1 m1 k1 o1 env1 h1 => ?_
    split at h1
    · rename_i xs e
      obtain ⟨lo, j, e0, rfl, b, _, rfl⟩ := rangeW_some e
      cases e0
      cases o1 with
      | old r c1 =>
        cases r
        refine ⟨j, rfl, b.2.2.1, b.2.2.2, ?_⟩
        have q := h1 (Itr 0 (j - 0).toNat) H1 m1 k1 c1 (live_range 0 _)
        rw [Int.sub_zero] at q
        exact q
    · exact h1.elim
theorem ti_range2 {p : Pos} (hg : Gl X "range") (hm : X.mg "range" = none) (ha : PE X a (tE O X.K CA Wx ea)) (hb : PE X b (tE O X.K CA Wx eb)) (hs : starEach [a, b] X.env = (false, eval a X.env) :: starEach [b] X.env) (hs2 : starEach [b] X.env = (false, eval b X.env) :: starEach [] X.env) :
    PI X tg (.Call (.Name "range" p) [a, b] [] pos) (tI O X.K CA Wx (.range2 ea eb)) :=
  piImp (pi_range2 hg hm (pa_cons ha (pa_cons hb pa_nil hs2) hs) (by rw [hs, hs2]; rfl) hs2) fun σ H J ⟨ρ, cs, m, f, env, c, h⟩ => by
    unfold Mi.evI at h
    refine tE_then env c h fun w cs1 v H1 m1 k1 o1 env1 h1 => ?_
    refine tE_then env1 o1.cells h1 fun w2 cs2 v2 H2 m2 k2 o2 env2 h2 => ?_
    split at h2
    · rename_i xs e
      obtain ⟨i, j, rfl, rfl, b, _, rfl⟩ := rangeW_some e
      cases o2 with
      | old r2 c2 =>
        cases r2
        cases o1 with
        | old r c1 =>
          cases r
          exact ⟨i, j, rfl, b, h2 (Itr i (j - i).toNat) H2 m2 (k1.trans k2) c2 (live_range i _)⟩
    · exact h2.elim
theorem ti_rev {p : Pos} (hg : Gl X "reversed") (hm : X.mg "reversed" = none) (ha : PE X a (tE O X.K CA Wx ea)) (hs : starEach [a] X.env = (false, eval a X.env) :: starEach [] X.env) : PI X tg (.Call (.Name "reversed" p) [a] [] pos) (tI O X.K CA Wx (.rev ea)) :=
  piImp (RT.pi_revA hg hm ha hs) fun σ H J ⟨ρ, cs, m, f, env, c, h⟩ => by
    unfold Mi.evI at h
    refine tE_then env c h fun w cs1 v H1 m1 k1 o1 env1 h1 => ?_
    split at h1
    · rename_i t xs e
      cases t with
      | true =>
        obtain ⟨a, ev, hh⟩ := has_tup o1.rep e
        obtain ⟨vs, s1, r1⟩ := hh.here
        exact ⟨a, vs, ev, .inr ⟨s1, h1 _ H1 m1 k1 o1.cells (live_revT hh r1.length.symm)⟩⟩
      | false =>
        obtain ⟨a, ev, hh⟩ := has_lst o1.rep e
        obtain ⟨vs, s1, r1⟩ := hh.here
        exact ⟨a, vs, ev, .inl ⟨s1, h1 _ H1 m1 k1 o1.cells (live_revL hh r1.length.symm)⟩⟩
    · exact h1.elim
theorem ti_enum {p tpos : Pos} {elts : List Expr} {kk : Nat} (hg : Gl X "enumerate") (hm : X.mg "enumerate" = none) (ha : PE X a (tE O X.K CA Wx ea)) (hs : starEach [a] X.env = (false, eval a X.env) :: starEach [] X.env) : PI X (.Tuple elts kk tpos) (.Call (.Name "enumerate" p) [a] [] pos) (tI O X.K CA Wx (.enum ea)) :=
  piImp (pi_enumA hg hm (pa_cons ha pa_nil hs) hs) fun σ H J ⟨ρ, cs, m, f, env, c, h⟩ => by
    unfold Mi.evI at h
    refine tE_then env c h fun w cs1 v H1 m1 k1 o1 env1 h1 => ?_
    split at h1
    · rename_i t xs e
      cases t with
      | true =>
        obtain ⟨a, ev, hh⟩ := has_tup o1.rep e
        obtain ⟨vs, s1, r1⟩ := hh.here
        exact ⟨a, vs, by rw [ev], .inr ⟨s1, h1 _ H1 m1 k1 o1.cells (live_enumT hh)⟩⟩
      | false =>
        obtain ⟨a, ev, hh⟩ := has_lst o1.rep e
        obtain ⟨vs, s1, r1⟩ := hh.here
        exact ⟨a, vs, by rw [ev], .inl ⟨s1, h1 _ H1 m1 k1 o1.cells (live_enumL hh)⟩⟩
    · exact h1.elim
theorem ti_zip {p tpos : Pos} {elts : List Expr} {kk : Nat} (hg : Gl X "zip") (hm : X.mg "zip" = none) (ha : PE X a (tE O X.K CA Wx ea)) (hb : PE X b (tE O X.K CA Wx eb)) (hs : starEach [a, b] X.env = (false, eval a X.env) :: starEach [b] X.env) (hs2 : starEach [b] X.env = (false, eval b X.env) :: starEach [] X.env) :
    PI X (.Tuple elts kk tpos) (.Call (.Name "zip" p) [a, b] [] pos) (tI O X.K CA Wx (.zip ea eb)) :=
  piImp (RZ.pi_zipA hg hm (pa_cons ha (pa_cons hb pa_nil hs2) hs) hs (by rw [hs2]; rfl)) fun σ H J ⟨ρ, cs, m, f, env, c, h⟩ => by
    unfold Mi.evI at h
    refine tE_then env c h fun w cs1 v H1 m1 k1 o1 env1 h1 => ?_
    refine tE_then env1 o1.cells h1 fun w2 cs2 v2 H2 m2 k2 o2 env2 h2 => ?_
    split at h2
    · rename_i t xs t' ys e e'
      split at h2
      · rename_i ht
        subst ht
        cases t with
        | true =>
          obtain ⟨a, ev, hh⟩ := has_tup (o1.rep.mono k2) (by cases w <;> first | exact e | cases e)
          obtain ⟨b, ev2, hh2⟩ := has_tup o2.rep e'
          obtain ⟨vs, s1, r1⟩ := hh.here
          obtain ⟨us, s2, r2⟩ := hh2.here
          exact ⟨a, b, vs, us, by rw [ev, ev2], .inr ⟨s1, s2, h2 _ H2 m2 (k1.trans k2) o2.cells (live_zipT hh hh2)⟩⟩
        | false =>
          obtain ⟨a, ev, hh⟩ := has_lst (o1.rep.mono k2) (by cases w <;> first | exact e | cases e)
          obtain ⟨b, ev2, hh2⟩ := has_lst o2.rep e'
          obtain ⟨vs, s1, r1⟩ := hh.here
          obtain ⟨us, s2, r2⟩ := hh2.here
          exact ⟨a, b, vs, us, by rw [ev, ev2], .inl ⟨s1, s2, h2 _ H2 m2 (k1.trans k2) o2.cells (live_zipL hh hh2)⟩⟩
      · exact h2.elim
    · exact h2.elim
theorem Reps.rangeI {K : PySem.W.Frag} {H : Hp} {m f : List Addr} (lo : Int) : ∀ n : Nat, Reps K H m f (Mi.rangeI lo n) ((List.range n).map fun i => V.int (lo + (i : Nat)))
  | 0 => .nil
  | n + 1 => by
    unfold Mi.rangeI
    rw [List.range_succ, List.map_append, List.map_append]
    exact (Reps.rangeI lo n).append (.cons (.int _) .nil)
theorem te_listI {p p2 pos2 : Pos} (hc : X.calm = true) (hg : Gl X "list") (hm : X.mg "list" = none) (hg2 : Gl X "range") (hm2 : X.mg "range" = none) (ha : PE X a (tE O X.K CA Wx ea)) (hb : PE X b (tE O X.K CA Wx eb)) (hs : starEach [a, b] X.env = (false, eval a X.env) :: starEach [b] X.env) (hs2 : starEach [b] X.env = (false, eval b X.env) :: starEach [] X.env) :
    PE X (.Call (.Name "list" p) [.Call (.Name "range" p2) [a, b] [] pos2] [] pos) (tE O X.K CA Wx (.listI ea eb)) :=
  peImp (pe_listRg hc hg hm (prg_2 hg2 hm2 ha hb hs hs2 (by rw [hs2]; rfl)) rfl) fun σ H Q ⟨ρ, cs, m, f, env, c, h⟩ => by
    rw [Mi.ev] at h
    refine tE_then env c h fun w cs1 v H1 m1 k1 o1 env1 h1 => ?_
    refine tE_then env1 o1.cells h1 fun w2 cs2 v2 H2 m2 k2 o2 env2 h2 => ?_
    split at h2
    · rename_i xs e
      obtain ⟨i, j, rfl, rfl, b, b', rfl⟩ := rangeW_some e
      cases o2 with
      | old r2 c2 =>
        cases r2
        cases o1 with
        | old r c1 =>
          cases r
          refine ⟨i, j, rfl, rfl, ⟨b.1, b.2.1, b.2.2.1, b.2.2.2, b'⟩, fun q hq => h2 _ _ m2 ((k1.trans k2).trans (Keep.new hq)) ((out_new c2 hq (Reps.rangeI i _)).back (k1.trans k2))⟩
    · exact h2.elim
theorem te_listJ {p p2 pos2 : Pos} (hc : X.calm = true) (hg : Gl X "list") (hm : X.mg "list" = none) (hg2 : Gl X "range") (hm2 : X.mg "range" = none) (ha : PE X a (tE O X.K CA Wx ea)) (hs : starEach [a] X.env = (false, eval a X.env) :: starEach [] X.env) :
    PE X (.Call (.Name "list" p) [.Call (.Name "range" p2) [a] [] pos2] [] pos) (tE O X.K CA Wx (.listJ ea)) :=
  peImp (pe_listRg hc hg hm (prg_1 hg2 hm2 ha hs) rfl) fun σ H Q ⟨ρ, cs, m, f, env, c, h⟩ => by
    rw [Mi.ev] at h
    refine tE_then env c h fun w cs1 v H1 m1 k1 o1 env1 h1 => ?_
    split at h1
    · rename_i xs e
      obtain ⟨i, j, e0, rfl, b, b', rfl⟩ := rangeW_some e
      cases e0
      cases o1 with
      | old r c1 =>
        cases r
        exact ⟨j, rfl, ⟨b.1, b.2.1, b.2.2.1, b.2.2.2, b'⟩, fun q hq => h1 _ _ m1 (k1.trans (Keep.new hq)) ((out_new c1 hq (Reps.rangeI 0 _)).back k1)⟩
    · exact h1.elim
end
/-! ### what is stored to -/
def gNs : List Nat → TGs
  | [] => gNil
  | i :: is => gCons (gName i) (gNs is)
def gM (K : PySem.W.Frag) : Mi.Tg → TG
  | .nm i => gName i
  | .tp is => gTup K is.length (gNs is)
def tgIx : Mi.Tg → List Nat
  | .nm i => [i]
  | .tp is => is
/-- the slots that are not in wr are as they were -/
def Agree (wr : List Nat) (σ σ' : LS) : Prop := σ.length = σ'.length ∧ ∀ i, i ∉ wr → σ'[i]? = σ[i]?
theorem Agree.refl {wr : List Nat} {σ : LS} : Agree wr σ σ := ⟨rfl, fun _ _ => rfl⟩
theorem Agree.trans {wr : List Nat} {σ σ1 σ2 : LS} (a : Agree wr σ σ1) (b : Agree wr σ1 σ2) : Agree wr σ σ2 := ⟨a.1.trans b.1, fun i h => (b.2 i h).trans (a.2 i h)⟩
theorem Agree.set {wr : List Nat} {σ σ1 : LS} {i : Nat} {v : Option V} (a : Agree wr σ σ1) (h : i ∈ wr) : Agree wr σ (σ1.set i v) := ⟨by rw [List.length_set]; exact a.1, fun j hj => by
  rw [List.getElem?_set_ne (fun (z : i = j) => hj (by rw [← z]; exact h))]
  exact a.2 j hj⟩
theorem wipe_in {σ : LS} : ∀ {vs : List Nat} {i : Nat}, i ∈ vs → i < σ.length → (L2.wipe σ vs)[i]? = some none
  | j :: vs, i, h, hl => by
    show ((L2.wipe σ vs).set j none)[i]? = some none
    by_cases e : j = i
    · subst e
      exact List.getElem?_set_self (by rw [L2.wipe_length]; exact hl)
    · rw [List.getElem?_set_ne e]
      exact wipe_in ((List.mem_cons.mp h).resolve_left (Ne.symm e)) hl
theorem wipe_agree {wr : List Nat} {σ σ' : LS} (a : Agree wr σ σ') : L2.wipe σ' wr = L2.wipe σ wr := by
  apply List.ext_getElem?
  intro i
  by_cases h : i ∈ wr
  · by_cases hl : i < σ.length
    · rw [wipe_in h hl, wipe_in h (by rw [← a.1]; exact hl)]
    · rw [List.getElem?_eq_none (by rw [L2.wipe_length, ← a.1]; omega), List.getElem?_eq_none (by rw [L2.wipe_length]; omega)]
  · rw [wipe_out h, wipe_out h]
    exact a.2 i h
theorem agree_wipe {wr : List Nat} {σ : LS} : Agree wr (L2.wipe σ wr) σ := ⟨L2.wipe_length _ _, fun i h => (wipe_out h).symm⟩
section
variable {K : PySem.W.Frag} {H : Hp} {m f : List Addr} {wr : List Nat} {Q : LS → Hp → Prop}
theorem puts_ok : ∀ {is : List Nat} {ws : List W} {vs : List V} {ρ ρ' : ME} {σ : LS}, (∀ i ∈ is, i ∈ wr) → Mi.putS is ws ρ = some ρ' → Reps K H m f ws vs → EnvR K H m f ρ σ → (∀ σ', EnvR K H m f ρ' σ' → Agree wr σ σ' → Q σ' H) → gNs is vs σ H Q
  | [], [], _, _, _, _, _, e, .nil, env, k => by
    cases e
    exact ⟨rfl, k _ env Agree.refl⟩
  | i :: is, w :: ws, _, _, _, _, hw, e, .cons r rs, env, k => ⟨_, _, rfl, puts_ok (fun j h => hw j (List.mem_cons_of_mem _ h)) e rs (env.set r) fun σ' e' a => k σ' e' ((Agree.refl.set (hw i List.mem_cons_self)).trans a)⟩
  | [], _ :: _, _, _, _, _, _, e, _, _, _ => by cases e
  | _ :: _, [], _, _, _, _, _, e, _, _, _ => by cases e
theorem putS_len : ∀ {is : List Nat} {ws : List W} {ρ ρ' : ME}, Mi.putS is ws ρ = some ρ' → ws.length = is.length
  | [], [], _, _, _ => rfl
  | _ :: is, _ :: ws, _, _, e => congrArg (· + 1) (putS_len (is := is) (ws := ws) e)
  | [], _ :: _, _, _, e => by cases e
  | _ :: _, [], _, _, e => by cases e
theorem put_ok {t : Mi.Tg} {w : W} {v : V} {ρ ρ' : ME} {σ : LS} (hw : ∀ i ∈ tgIx t, i ∈ wr) (e : Mi.put t w ρ = some ρ') (r : Rep K H m f w v) (env : EnvR K H m f ρ σ) (k : ∀ σ', EnvR K H m f ρ' σ' → Agree wr σ σ' → Q σ' H) : gM K t v σ H Q := by
  cases t with
  | nm i =>
    cases e
    exact k _ (env.set r) (Agree.refl.set (hw i List.mem_cons_self))
  | tp is =>
    cases w <;> first | (cases e; done) | skip
    obtain ⟨a, vs, ev, hs, rs⟩ := SqT.ofRep r
    have e' : Mi.putS is _ ρ = some ρ' := e
    exact ⟨a, vs, ev, hs, by rw [← rs.length, putS_len e'], puts_ok hw e' rs env k⟩
end
end So
end S_Its

section S_Comps
set_option Elab.async false
set_option linter.all false
set_option maxRecDepth 100000
set_option maxHeartbeats 4000000
/-! Comps: comprehensions. -/
namespace So
open PySem PySem.Spec PyProof.Rows L2
open Mi (W Ob Xn R Orc)
section
variable {K : PySem.W.Frag} {H H1 : Hp} {m m1 f : List Addr} {D : Addr} {o : HO} {cs : List Ob}
theorem rd_write {a : Addr} {u : HO} (h : Rd H a u) (hf : a ∉ D :: f) : Rd (upd H D o) a u := by
  have hn : a ≠ D := fun z => hf (by rw [z]; exact List.mem_cons_self)
  rcases h with h | ⟨x, h⟩
  · exact .inl (by rw [upd_ne hn]; exact h)
  · exact .inr ⟨x, by rw [upd_ne hn]; exact h⟩
theorem at_write {a : Addr} {u : Option HO} (h : H a = u) (hf : a ∉ D :: f) : upd H D o a = u := by
  have hn : a ≠ D := fun z => hf (by rw [z]; exact List.mem_cons_self)
  rw [upd_ne hn]
  exact h
mutual
/-- what is not spoken of is written -/
theorem Rep.write : ∀ {w : W} {v : V}, Rep K H m (D :: f) w v → Rep K (upd H D o) m (D :: f) w v
  | _, _, .non => .non
  | _, _, .bl b => .bl b
  | _, _, .int i => .int i
  | _, _, .str s => .str s
  | _, _, .tup h ha hf hs => .tup (rd_write h hf) ha hf (Reps.write hs)
  | _, _, .ktup h hs => .ktup h (Reps.write hs)
  | _, _, .kscr h hs => .kscr h (Reps.write hs)
  | _, _, .lst h ha hf hs => .lst (at_write h hf) ha hf (Reps.write hs)
  | _, _, .scr h ha hf hs => .scr (rd_write h hf) ha hf (Reps.write hs)
  | _, _, .ref h => .ref h
theorem Reps.write : ∀ {ws : List W} {vs : List V}, Reps K H m (D :: f) ws vs → Reps K (upd H D o) m (D :: f) ws vs
  | _, _, .nil => .nil
  | _, _, .cons h hs => .cons (Rep.write h) (Reps.write hs)
end
theorem Cells.write (c : Cells K H m (D :: f) cs) : Cells K (upd H D o) m (D :: f) cs := by
  refine ⟨c.len, c.nd, fun a ha => ?_, c.fm, fun n a ob h1 h2 => ?_⟩
  · by_cases e : a = D
    · rw [e, upd_same]
      exact fun z => nomatch z
    · rw [upd_ne e]
      exact c.fd a ha
  · have q := c.at_ n a ob h1 h2
    have hn : a ≠ D := fun z => c.fm D List.mem_cons_self (by rw [← z]; exact List.mem_of_getElem? h1)
    cases ob with
    | lst xs =>
      obtain ⟨vs, h3, h4⟩ := q
      exact ⟨vs, by rw [upd_ne hn]; exact h3, h4.write⟩
    | ins x fs => exact q
theorem Keep.write (k : Keep H1 H m1 m) (hD : H1 D = none) : Keep H1 (upd H D o) m1 m := by
  refine ⟨k.ext, fun a u e ha => ?_, fun a e => ?_⟩
  · rw [upd_ne (ne_of_none e hD)]
    exact k.same a u e ha
  · by_cases z : a = D
    · rw [z]
      exact hD
    · rw [upd_ne z] at e
      exact k.dom a e
end
/-- one item of a comprehension -/
def Fc (O : Orc) (ρ : ME) (own : List Nat) (t : Mi.Tg) (c : Mi.OEx) (elt : Mi.Ex) (x : W) (cs : List Ob) : R (Option W) :=
  match Mi.put t (Mi.fz x) (Mi.wipe ρ own) with
  | some ρ' => ((Mi.evC O ρ' c cs).bind fun b cs => if b then (Mi.ev O ρ' elt cs).bind fun y cs => .ok (some (Mi.fz y)) cs else .ok none cs).noX
  | none => .bad
theorem ev_comp {O : Orc} {ρ : ME} {elt : Mi.Ex} {t : Mi.Tg} {it : Mi.It} {c : Mi.OEx} {own : List Nat} {cs : List Ob} : Mi.ev O ρ (.comp elt t it c own) cs = (Mi.evI O ρ it cs).bind fun s cs => (Mi.compS (Fc O ρ own t c elt) s cs).bind fun ys cs => Mi.mkNew ys cs := by
  rw [Mi.ev]
  rfl
/-- of a comprehension's tests -/
def tC (O : Orc) (K : PySem.W.Frag) (CA : Nat → Addr) (Wx : WX) (c : Mi.OEx) : TT := fun σ H Q => ∃ (ρ : ME) (cs : List Ob) (m f : List Addr), EnvR K H m f ρ σ ∧ Cells K H m f cs ∧
  Rw (Zs K CA (fun cls d H => Wx cls d σ H) H m f) (Mi.evC O ρ c cs) (fun b cs' => ∀ H' m', Keep H H' m m' → Cells K H' m' f cs' → Q b H')
/-- nothing may be raised -/
def noW : WX := fun _ _ _ _ => False
theorem Fc_ok {O : Orc} {ρ : ME} {own : List Nat} {t : Mi.Tg} {c : Mi.OEx} {elt : Mi.Ex} {x : W} {cs cs3 : List Ob} {o : Option W} (h : Fc O ρ own t c elt x cs = .ok o cs3) : ∃ ρ' b cs2, Mi.put t (Mi.fz x) (Mi.wipe ρ own) = some ρ' ∧ Mi.evC O ρ' c cs = .ok b cs2 ∧
    ((b = true ∧ ∃ y, Mi.ev O ρ' elt cs2 = .ok y cs3 ∧ o = some (Mi.fz y)) ∨ (b = false ∧ o = none ∧ cs2 = cs3)) := by
  unfold Fc at h
  split at h
  · rename_i ρ' e
    cases e1 : Mi.evC O ρ' c cs with
    | bad =>
      rw [e1] at h
      cases h
    | exn x c1 =>
      rw [e1] at h
      cases h
    | ok b cs2 =>
      rw [e1] at h
      refine ⟨ρ', b, cs2, e, e1, ?_⟩
      cases b with
      | false =>
        have h' : (R.ok (none : Option W) cs2) = .ok o cs3 := h
        cases h'
        exact .inr ⟨rfl, rfl, rfl⟩
      | true =>
        have h' : ((Mi.ev O ρ' elt cs2).bind fun y cs => R.ok (some (Mi.fz y)) cs).noX = .ok o cs3 := h
        cases e2 : Mi.ev O ρ' elt cs2 with
        | bad =>
          rw [e2] at h'
          cases h'
        | exn x c1 =>
          rw [e2] at h'
          cases h'
        | ok y c3 =>
          rw [e2] at h'
          have h2 : R.ok (some (Mi.fz y)) c3 = .ok o cs3 := h'
          cases h2
          exact .inl ⟨rfl, y, rfl, rfl⟩
  · cases h
theorem Fc_nox {O : Orc} {ρ : ME} {own : List Nat} {t : Mi.Tg} {c : Mi.OEx} {elt : Mi.Ex} {x : W} {cs c1 : List Ob} {z : Xn} : Fc O ρ own t c elt x cs ≠ .exn z c1 := by
  unfold Fc
  split
  · generalize ((Mi.evC O _ c cs).bind fun b cs => if b then (Mi.ev O _ elt cs).bind fun y cs => R.ok (some (Mi.fz y)) cs else .ok none cs) = r
    intro h
    cases r <;> cases h
  · intro h
    cases h
theorem bind_ok {α β : Type} {r : R α} {g : α → List Ob → R β} {b : β} {cs : List Ob} (h : r.bind g = .ok b cs) : ∃ a c1, r = .ok a c1 ∧ g a c1 = .ok b cs := by
  cases r with
  | ok a c1 => exact ⟨a, c1, rfl, h⟩
  | exn x c1 => cases h
  | bad => cases h
theorem compGo_nox {F : W → List Ob → R (Option W)} (hF : ∀ x cs z c1, F x cs ≠ .exn z c1) : ∀ (xs : List W) (cs : List Ob) (z : Xn) (c1 : List Ob), Mi.compGo F xs cs ≠ .exn z c1
  | [], cs, z, c1, h => by cases h
  | x :: xs, cs, z, c1, h => by
    unfold Mi.compGo at h
    cases e : F x cs with
    | bad =>
      rw [e] at h
      cases h
    | exn z c1 => exact hF _ _ _ _ e
    | ok o c2 =>
      rw [e] at h
      have h' : ((Mi.compGo F xs c2).bind fun ys cs => R.ok (match o with
        | some y => y :: ys
        | none => ys) cs) = .exn z c1 := h
      cases e2 : Mi.compGo F xs c2 with
      | bad =>
        rw [e2] at h'
        cases h'
      | exn z c3 => exact compGo_nox hF _ _ _ _ e2
      | ok o c3 =>
        rw [e2] at h'
        cases h'
theorem compCe_nox {F : W → List Ob → R (Option W)} (hF : ∀ x cs z c1, F x cs ≠ .exn z c1) (n : Nat) : ∀ (k i : Nat) (cs : List Ob) (z : Xn) (c1 : List Ob), Mi.compCe F n i k cs ≠ .exn z c1
  | 0, i, cs, z, c1, h => by
    unfold Mi.compCe at h
    split at h
    · split at h <;> cases h
    · cases h
  | k + 1, i, cs, z, c1, h => by
    unfold Mi.compCe at h
    split at h
    · split at h
      · rename_i x _
        cases e : F x cs with
        | bad =>
          rw [e] at h
          cases h
        | exn z c1 => exact hF _ _ _ _ e
        | ok o c2 =>
          rw [e] at h
          have h' : ((Mi.compCe F n (i + 1) k c2).bind fun ys cs => R.ok (match o with
            | some y => y :: ys
            | none => ys) cs) = .exn z c1 := h
          cases e2 : Mi.compCe F n (i + 1) k c2 with
          | bad =>
            rw [e2] at h'
            cases h'
          | exn z c3 => exact compCe_nox hF n k _ _ _ _ e2
          | ok o c3 =>
            rw [e2] at h'
            cases h'
      · cases h
    · cases h
section
variable {O : Orc} {K : PySem.W.Frag} {CA : Nat → Addr} {ρ : ME} {σ : LS} {own : List Nat} {t : Mi.Tg} {c : Mi.OEx} {elt : Mi.Ex} {D : Addr} {f : List Addr}
theorem comp_step {H : Hp} {m : List Addr} {cs cs3 : List Ob} {x : W} {v : V} {o : Option W} {acc : List V} {Nx : Hp → Prop} (env : EnvR K H m (D :: f) (Mi.wipe ρ own) (L2.wipe σ own)) (cc : Cells K H m (D :: f) cs) (r : Rep K H m (D :: f) x v) (hD : H D = some (.lst acc))
    (hf : Fc O ρ own t c elt x cs = .ok o cs3) (ht : ∀ i ∈ tgIx t, i ∈ own) (hn : o = none → ∀ H' m', Keep H H' m m' → Cells K H' m' (D :: f) cs3 → H' D = some (.lst acc) → Nx H')
    (hs : ∀ y, o = some y → acc.length < sizeLine ∧ ∀ H' m' u, Keep H H' m m' → Cells K H' m' (D :: f) cs3 → Rep K H' m' (D :: f) y u → H' D = some (.lst acc) → Nx (upd H' D (.lst (acc ++ [u])))) :
    gM K t v (L2.wipe σ own) H fun σ2 H2 => L2.wipe σ2 own = L2.wipe σ own ∧ tC O K CA noW c σ2 H2 fun b H3 => if b = true then tE O K CA noW elt σ2 H3 fun y H4 => ∃ acc, H4 D = some (.lst acc) ∧ acc.length < sizeLine ∧ Nx (upd H4 D (.lst (acc ++ [y]))) else Nx H3 := by
  obtain ⟨ρ', b, cs2, e1, e2, h⟩ := Fc_ok hf
  refine put_ok ht e1 r.fz env fun σ2 env2 ag => ⟨?_, ρ', cs, m, D :: f, env2, cc, ?_⟩
  · rw [wipe_agree ag]
    exact (wipe_agree agree_wipe).symm
  · rw [e2]
    intro H3 m3 k3 c3
    have hD3 : H3 D = some (.lst acc) := k3.same D _ hD (cc.fm D List.mem_cons_self)
    rcases h with ⟨rfl, y, e3, eo⟩ | ⟨rfl, eo, rfl⟩
    · refine iteT ⟨ρ', cs2, m3, D :: f, env2.mono k3, c3, ?_⟩
      rw [e3]
      intro u H4 m4 k4 o4
      obtain ⟨hl, hx⟩ := hs _ eo
      have hD4 : H4 D = some (.lst acc) := k4.same D _ hD3 (c3.fm D List.mem_cons_self)
      exact ⟨acc, hD4, hl, hx H4 m4 u (k3.trans k4) o4.cells o4.rep hD4⟩
    · exact iteF (hn eo H3 m3 k3 c3 hD3)
theorem lc_gen {P : Nat → Nat → List Ob → List W → Prop} {J : It} {H1 : Hp} {m1 : List Addr} {cs1 cs' : List Ob} {yall : List W} {Qd : Hp → Prop} {k0 : Nat} (hD : H1 D = none) (env : EnvR K H1 m1 f ρ σ) (c1 : Cells K H1 m1 f cs1) (ht : ∀ i ∈ tgIx t, i ∈ own)
    (hP : ∀ i k cs ys H m, P i k cs ys → Keep H1 H m1 m → Cells K H m (D :: f) cs → (J.stop i H ∧ ys = [] ∧ cs = cs') ∨ (J.go i H ∧ ∃ x o cs3 ys' k', Fc O ρ own t c elt x cs = .ok o cs3 ∧ k' < k ∧ P (i + 1) k' cs3 ys' ∧ ys = (match o with
      | some y => y :: ys'
      | none => ys') ∧ ∀ v H2, J.yld i H v H2 → Keep H H2 m m ∧ Cells K H2 m (D :: f) cs ∧ Rep K H2 m (D :: f) x v))
    (h0 : P 0 k0 cs1 yall) (hl : yall.length ≤ Mi.lim) (q : ∀ H m acc, Keep H1 H m1 m → H D = some (.lst acc) → Reps K H m (D :: f) yall acc → Cells K H m (D :: f) cs' → Qd H) :
    ∃ Wi : Nat → Nat → Hp → Prop, (∃ m, Wi 0 m (upd H1 D (.lst []))) ∧ ∀ i m H, Wi i m H → (J.stop i H ∧ Qd H) ∨ (J.go i H ∧ ∃ Nx : Hp → Prop, (∀ H', Nx H' → ∃ m', m' < m ∧ Wi (i + 1) m' H') ∧ ∀ x H', J.yld i H x H' → gM K t x (L2.wipe σ own) H' fun σ2 H2 => L2.wipe σ2 own = L2.wipe σ own ∧ tC O K CA noW c σ2 H2 fun b H3 =>
      if b = true then tE O K CA noW elt σ2 H3 fun y H4 => ∃ acc, H4 D = some (.lst acc) ∧ acc.length < sizeLine ∧ Nx (upd H4 D (.lst (acc ++ [y]))) else Nx H3) := by
  refine ⟨fun i k H => ∃ wacc acc m cs ys, Keep H1 H m1 m ∧ H D = some (.lst acc) ∧ Reps K H m (D :: f) wacc acc ∧ Cells K H m (D :: f) cs ∧ P i k cs ys ∧ wacc ++ ys = yall, ⟨k0, [], [], m1, cs1, yall, Keep.new hD, upd_same .., .nil, c1.aside hD, h0, rfl⟩, ?_⟩
  rintro i k H ⟨wacc, acc, m, cs, ys, kp, hDH, ra, cc, hp, ey⟩
  rcases hP i k cs ys H m hp kp cc with ⟨st, e1, e2⟩ | ⟨go, x, o, cs3, ys', k', hF, hk, hp', eys, hy⟩
  · subst e1 e2
    rw [List.append_nil] at ey
    subst ey
    exact .inl ⟨st, q H m acc kp hDH ra cc⟩
  · refine .inr ⟨go, fun H' => ∃ m', m' < k ∧ ∃ wacc acc m cs ys, Keep H1 H' m1 m ∧ H' D = some (.lst acc) ∧ Reps K H' m (D :: f) wacc acc ∧ Cells K H' m (D :: f) cs ∧ P (i + 1) m' cs ys ∧ wacc ++ ys = yall, fun H' h => h, fun v H2 y => ?_⟩
    obtain ⟨k2, c2, r2⟩ := hy v H2 y
    have hD2 : H2 D = some (.lst acc) := k2.same D _ hDH (cc.fm D List.mem_cons_self)
    have kp2 := kp.trans k2
    refine comp_step (CA := CA) ((Later.far hD kp2).env (env.wipe own)) c2 r2 hD2 hF ht (fun eo H' m' k3 c3 hD3 => ?_) fun y eo => ⟨?_, fun H' m' u k3 c3 ru hD3 => ?_⟩
    · subst eo
      simp only at eys
      subst eys
      exact ⟨k', hk, wacc, acc, m', cs3, _, kp2.trans k3, hD3, (ra.mono k2).mono k3, c3, hp', ey⟩
    · subst eo
      simp only at eys
      subst eys
      have e := congrArg List.length ey
      rw [List.length_append, List.length_cons, ra.length] at e
      have := sl_le hl
      omega
    · subst eo
      simp only at eys
      subst eys
      refine ⟨k', hk, wacc ++ [y], acc ++ [u], m', cs3, _, (kp2.trans k3).write hD, upd_same .., (((ra.mono k2).mono k3).append (.cons ru .nil)).write, c3.write, hp', ?_⟩
      rw [List.append_assoc]
      exact ey
/-- the whole walk -/
theorem lc_ok {s : Mi.Src} {J : It} {H1 : Hp} {m1 : List Addr} {cs1 cs' : List Ob} {yall : List W} {Qd : Hp → Prop} (hD : H1 D = none) (env : EnvR K H1 m1 f ρ σ) (c1 : Cells K H1 m1 f cs1) (lv : Live K s J H1 m1 f) (ht : ∀ i ∈ tgIx t, i ∈ own)
    (e : Mi.compS (Fc O ρ own t c elt) s cs1 = .ok yall cs') (hl : yall.length ≤ Mi.lim) (q : ∀ H m acc, Keep H1 H m1 m → H D = some (.lst acc) → Reps K H m (D :: f) yall acc → Cells K H m (D :: f) cs' → Qd H) :
    ∃ Wi : Nat → Nat → Hp → Prop, (∃ m, Wi 0 m (upd H1 D (.lst []))) ∧ ∀ i m H, Wi i m H → (J.stop i H ∧ Qd H) ∨ (J.go i H ∧ ∃ Nx : Hp → Prop, (∀ H', Nx H' → ∃ m', m' < m ∧ Wi (i + 1) m' H') ∧ ∀ x H', J.yld i H x H' → gM K t x (L2.wipe σ own) H' fun σ2 H2 => L2.wipe σ2 own = L2.wipe σ own ∧ tC O K CA noW c σ2 H2 fun b H3 =>
      if b = true then tE O K CA noW elt σ2 H3 fun y H4 => ∃ acc, H4 D = some (.lst acc) ∧ acc.length < sizeLine ∧ Nx (upd H4 D (.lst (acc ++ [y]))) else Nx H3) := by
  cases s with
  | im xs =>
    refine lc_gen (P := fun i k cs ys => k = xs.length - i ∧ i ≤ xs.length ∧ Mi.compGo (Fc O ρ own t c elt) (xs.drop i) cs = .ok ys cs') (k0 := xs.length) hD env c1 ht (fun i k cs ys H m hp kp cc => ?_) ⟨rfl, Nat.zero_le _, e⟩ hl q
    obtain ⟨ek, hi, hg⟩ := hp
    have hv : LiveI K xs J H1 m1 f := lv
    obtain ⟨g1, g2, g3⟩ := hv H m (D :: f) cs (Later.far hD kp) cc
    by_cases hlt : i < xs.length
    · rw [List.drop_eq_getElem_cons hlt] at hg
      unfold Mi.compGo at hg
      obtain ⟨o, cs3, e1, hg⟩ := bind_ok hg
      obtain ⟨ys', cs4, e2, hg⟩ := bind_ok hg
      cases hg
      refine .inr ⟨g1 i hlt, xs[i], o, cs3, ys', k - 1, e1, by omega, ⟨by omega, hlt, e2⟩, rfl, fun v H2 y => ?_⟩
      obtain ⟨k2, c2, w, ew, rw'⟩ := g3 i v H2 hlt y
      rw [List.getElem?_eq_getElem hlt] at ew
      cases ew
      exact ⟨k2, c2, rw'⟩
    · have ei : i = xs.length := by omega
      subst ei
      rw [List.drop_length] at hg
      cases hg
      exact .inl ⟨g2, rfl, rfl⟩
  | ce n len =>
    obtain ⟨a, hm, rfl⟩ := lv
    refine lc_gen (P := fun i k cs ys => Mi.compCe (Fc O ρ own t c elt) n i k cs = .ok ys cs') (k0 := len) hD env c1 ht (fun i k cs ys H m hg kp cc => ?_) e hl q
    have hm' := kp.get hm
    cases k with
    | zero =>
      unfold Mi.compCe at hg
      split at hg
      · rename_i xs ex
        split at hg
        · rename_i hi
          cases hg
          obtain ⟨vs, h1, h2⟩ := cc.lst hm' ex
          exact .inl ⟨⟨vs, .of h1, by rw [← h2.length]; exact hi⟩, rfl, rfl⟩
        · cases hg
      · cases hg
    | succ k =>
      unfold Mi.compCe at hg
      split at hg
      · rename_i xs ex
        split at hg
        · rename_i x hx
          obtain ⟨o, cs3, e1, hg⟩ := bind_ok hg
          obtain ⟨ys', cs4, e2, hg⟩ := bind_ok hg
          cases hg
          obtain ⟨vs, h1, h2⟩ := cc.lst hm' ex
          obtain ⟨v, h3, h4⟩ := h2.get hx
          refine .inr ⟨⟨vs, v, .of h1, h3⟩, x, o, cs3, ys', k, e1, Nat.lt_succ_self _, e2, rfl, fun u H2 y => ?_⟩
          obtain ⟨y1, y2⟩ := y
          subst y1
          have y3 := y2 vs (.of h1)
          rw [h3] at y3
          cases y3
          exact ⟨Keep.refl, cc, h4⟩
        · cases hg
      · cases hg
theorem comp_val {σ : LS} {H : Hp} {Q : VK} {Wx : WX} {it : Mi.It} (ht : ∀ i ∈ tgIx t, i ∈ own) (h : tE O K CA Wx (.comp elt t it c own) σ H Q) : tLc (tI O K CA Wx it) (gM K t) (tC O K CA noW c) (tE O K CA noW elt) own σ H Q := by
  obtain ⟨ρ, cs, m, f, env, cc, h⟩ := h
  rw [ev_comp] at h
  refine ⟨ρ, cs, m, f, env, cc, h.bind.imp (fun _ _ z => z) fun s cs1 h1 J H1 m1 k1 c1 lv D hD => ?_⟩
  cases e : Mi.compS (Fc O ρ own t c elt) s cs1 with
  | bad =>
    rw [e] at h1
    exact h1.elim
  | exn x c2 =>
    exfalso
    cases s with
    | im xs => exact compGo_nox (fun _ _ _ _ => Fc_nox) _ _ _ _ e
    | ce n len => exact compCe_nox (fun _ _ _ _ => Fc_nox) _ _ _ _ _ _ e
  | ok ys cs2 =>
    rw [e] at h1
    have h2 : Rw (Zs K CA (fun cls d H => Wx cls d σ H) H m f) (Mi.mkNew ys cs2) (Ps K H m f Q) := h1
    unfold Mi.mkNew at h2
    split at h2
    · rename_i hl
      exact lc_ok hD (env.mono k1) c1 lv ht e hl fun H' m' acc kp hD' ra c' => h2 _ H' m' (k1.trans kp) (.new (k1.dom _ hD) (c1.notf hD) hD' ra c')
    · exact h2.elim
end
theorem ptsImp {X : Cx} {e : List Expr} {t t' : TT} (h : PTs X e t) (i : ∀ σ H Q, t' σ H Q → t σ H Q) : PTs X e t' := ⟨fun pins s σ H Q I hw => h.run pins s σ H Q I (i σ H Q hw)⟩
section
variable {X : Cx} {O : Orc} {CA : Nat → Addr} {Wx : WX} {pos : Pos}
theorem tc_none : PTs X [] (tC O X.K CA Wx .none) := ptsImp pts_nil fun σ H Q ⟨ρ, cs, m, f, env, c, h⟩ => by
  unfold Mi.evC at h
  exact h H m Keep.refl c
theorem tc_some {a : Expr} {ea : Mi.Ex} (ha : PT X a (tTs O X.K CA Wx ea)) : PTs X [a] (tC O X.K CA Wx (.some ea)) := ptsImp (pts_one ha) fun σ H Q ⟨ρ, cs, m, f, env, c, h⟩ => by
  unfold Mi.evC at h
  exact ⟨ρ, cs, m, f, env, c, h⟩
theorem te_comp {elt tg iter : Expr} {ifs : List Expr} {scope : Scope} {own : List (Str × Nat)} {it : Mi.It} {t : Mi.Tg} {c : Mi.OEx} {ee : Mi.Ex} (hc : X.calm = true) (hN : X.N.Nodup) (hi : PI X tg iter (tI O X.K CA Wx it)) (ok : BlkOk X.N X.env.scope scope own) (hw : ∀ i ∈ tgIx t, i ∈ own.map (·.2))
    (hg : ∀ (s : Shared) (H : Hp) (C : Addr) (cl : List (Str × Addr)) (fp : List Addr), PG (X.blk s H scope (compEnvC scope cl C X.env) fp) tg (gM X.K t)) (ht : ∀ (s : Shared) (H : Hp) (C : Addr) (cl : List (Str × Addr)) (fp : List Addr), PTs (X.blk s H scope (compEnvC scope cl C X.env) fp) ifs (tC O X.K CA noW c))
    (he : ∀ (s : Shared) (H : Hp) (C : Addr) (cl : List (Str × Addr)) (fp : List Addr), PE (X.blk s H scope (compEnvC scope cl C X.env) fp) elt (tE O X.K CA noW ee)) (hs : ∀ x, foldedSetIterable iter X.env x = pure x) :
    PE X (.ListComp elt [⟨tg, iter, ifs, 0⟩] scope pos) (tE O X.K CA Wx (.comp ee t it c (own.map (·.2)))) :=
  peImp (pe_lc hc hN hi ok hg ht he hs) fun _ _ _ h => comp_val hw h
end
end So
end S_Comps

section S_Stmts
set_option Elab.async false
set_option linter.all false
set_option maxRecDepth 100000
set_option maxHeartbeats 4000000
/-! Stmts: statements. -/
namespace So
open PySem PySem.Spec PyProof.Rows L2
open Mi (W Ob Xn R Orc)
section
variable (O : Orc) (K : PySem.W.Frag) (CA : Nat → Addr) (Wx : WX) (wr : List Nat)
/-- what is wanted of an exception that leaves a statement -/
def ZSm (H0 : Hp) (m0 f : List Addr) (σ0 : LS) (x : Xn) (cs : List Ob) : Prop := ∀ cls d H' m' σ', Keep H0 H' m0 m' → Cells K H' m' f cs → XRep K CA H' m' f x cls d → Agree wr σ0 σ' → Wx cls d σ' H'
/-- what is wanted behind a statement -/
def PSm (H0 : Hp) (m0 f : List Addr) (σ0 : LS) (D : Ends) (fl : Mi.Fl) (cs : List Ob) : Prop :=
  match fl with
  | .nx ρ => ∀ H' m' σ', Keep H0 H' m0 m' → Agree wr σ0 σ' → EnvR K H' m' f ρ σ' → Cells K H' m' f cs → D.nx σ' H'
  | .bk ρ => ∀ H' m' σ', Keep H0 H' m0 m' → Agree wr σ0 σ' → EnvR K H' m' f ρ σ' → Cells K H' m' f cs → D.bk σ' H'
  | .ct ρ => ∀ H' m' σ', Keep H0 H' m0 m' → Agree wr σ0 σ' → EnvR K H' m' f ρ σ' → Cells K H' m' f cs → D.ct σ' H'
  | .ret w => ∀ v H' m', Keep H0 H' m0 m' → Out K H0 m0 f H' m' w cs v → D.rt v H'
def tR (g : ME → List Ob → R Mi.Fl) : TS := fun D σ H => ∃ (H0 : Hp) (m0 f : List Addr) (σ0 : LS) (ρ : ME) (cs : List Ob) (m : List Addr), Keep H0 H m0 m ∧ Agree wr σ0 σ ∧ EnvR K H m f ρ σ ∧ Cells K H m f cs ∧ Rw (ZSm K CA Wx wr H0 m0 f σ0) (g ρ cs) (PSm K wr H0 m0 f σ0 D)
/-- the reading of a statement, of statements -/
def tS (s : Mi.S) : TS := tR K CA Wx wr (Mi.run O s)
def tSs (ss : Mi.Ss) : TS := tR K CA Wx wr (Mi.runs O ss)
end
section
variable {O : Orc} {K : PySem.W.Frag} {CA : Nat → Addr} {Wx : WX} {wr : List Nat} {H0 H H1 : Hp} {m0 m m1 f : List Addr} {σ0 σ σ1 : LS} {ρ : ME} {cs : List Ob} {D : Ends}
theorem ZSm.mono (k : Keep H0 H1 m0 m1) (a : Agree wr σ0 σ1) {x : Xn} {cs : List Ob} (h : ZSm K CA Wx wr H0 m0 f σ0 x cs) : ZSm K CA Wx wr H1 m1 f σ1 x cs := fun cls d H' m' σ' k' c' r a' => h cls d H' m' σ' (k.trans k') c' r (a.trans a')
theorem PSm.mono (k : Keep H0 H1 m0 m1) (a : Agree wr σ0 σ1) {fl : Mi.Fl} {cs : List Ob} (h : PSm K wr H0 m0 f σ0 D fl cs) : PSm K wr H1 m1 f σ1 D fl cs := by
  cases fl with
  | nx ρ => exact fun H' m' σ' k' a' => h H' m' σ' (k.trans k') (a.trans a')
  | bk ρ => exact fun H' m' σ' k' a' => h H' m' σ' (k.trans k') (a.trans a')
  | ct ρ => exact fun H' m' σ' k' a' => h H' m' σ' (k.trans k') (a.trans a')
  | ret w => exact fun v H' m' k' o => h v H' m' (k.trans k') (o.back k)
theorem ZSm.at (k : Keep H0 H m0 m) (a : Agree wr σ0 σ) {x : Xn} {cs : List Ob} (h : ZSm K CA Wx wr H0 m0 f σ0 x cs) : Zs K CA (fun cls d H => Wx cls d σ H) H m f x cs := fun cls d H' m' k' c' r => h cls d H' m' σ (k.trans k') c' r a
/-- an expression first -/
theorem st_E {β : Type} {e : Mi.Ex} {g : W → List Ob → R β} {q : β → List Ob → Prop} {Q : VK} (kp : Keep H0 H m0 m) (ag : Agree wr σ0 σ) (env : EnvR K H m f ρ σ) (c : Cells K H m f cs) (h : Rw (ZSm K CA Wx wr H0 m0 f σ0) ((Mi.ev O ρ e cs).bind g) q)
    (k : ∀ w cs1 v H1 m1, Keep H0 H1 m0 m1 → Keep H H1 m m1 → Out K H m f H1 m1 w cs1 v → EnvR K H1 m1 f ρ σ → Rw (ZSm K CA Wx wr H0 m0 f σ0) (g w cs1) q → Q v H1) : tE O K CA Wx e σ H Q :=
  ⟨ρ, cs, m, f, env, c, h.bind.imp (fun _ _ z => z.at kp ag) fun w cs1 h1 v H1 m1 k1 o => k w cs1 v H1 m1 (kp.trans k1) k1 o (env.mono k1) h1⟩
theorem st_T {β : Type} {e : Mi.Ex} {g : Bool → List Ob → R β} {q : β → List Ob → Prop} {Q : Bool → Hp → Prop} (kp : Keep H0 H m0 m) (ag : Agree wr σ0 σ) (env : EnvR K H m f ρ σ) (c : Cells K H m f cs) (h : Rw (ZSm K CA Wx wr H0 m0 f σ0) ((Mi.test O ρ e cs).bind g) q)
    (k : ∀ b cs1 H1 m1, Keep H0 H1 m0 m1 → Cells K H1 m1 f cs1 → EnvR K H1 m1 f ρ σ → Rw (ZSm K CA Wx wr H0 m0 f σ0) (g b cs1) q → Q b H1) : tTs O K CA Wx e σ H Q :=
  ⟨ρ, cs, m, f, env, c, h.bind.imp (fun _ _ z => z.at kp ag) fun b cs1 h1 H1 m1 k1 c1 => k b cs1 H1 m1 (kp.trans k1) c1 (env.mono k1) h1⟩
theorem st_I {β : Type} {it : Mi.It} {g : Mi.Src → List Ob → R β} {q : β → List Ob → Prop} {Q : It → Hp → Prop} (kp : Keep H0 H m0 m) (ag : Agree wr σ0 σ) (env : EnvR K H m f ρ σ) (c : Cells K H m f cs) (h : Rw (ZSm K CA Wx wr H0 m0 f σ0) ((Mi.evI O ρ it cs).bind g) q)
    (k : ∀ s cs1 J H1 m1, Keep H0 H1 m0 m1 → Cells K H1 m1 f cs1 → EnvR K H1 m1 f ρ σ → Live K s J H1 m1 f → Rw (ZSm K CA Wx wr H0 m0 f σ0) (g s cs1) q → Q J H1) : tI O K CA Wx it σ H Q :=
  ⟨ρ, cs, m, f, env, c, h.bind.imp (fun _ _ z => z.at kp ag) fun s cs1 h1 J H1 m1 k1 c1 lv => k s cs1 J H1 m1 (kp.trans k1) c1 (env.mono k1) lv h1⟩
/-! ### single statements -/
theorem set_ok {i : Nat} {e : Mi.Ex} (hi : i ∈ wr) (h : tS O K CA Wx wr (.set i e) D σ H) : tAsg (tE O K CA Wx e) (gName i) D σ H := by
  obtain ⟨H0, m0, f, σ0, ρ, cs, m, kp, ag, env, c, h⟩ := h
  rw [Mi.run] at h
  exact st_E kp ag env c h fun w cs1 v H1 m1 k1 k2 o env1 h1 => h1 H1 m1 _ k1 (ag.set hi) (env1.set o.rep) o.cells
theorem setC_ok {i : Nat} {e : Mi.Ex} (hi : i ∈ wr) (h : tS O K CA Wx wr (.setC i e) D σ H) : tAsg (tE O K CA Wx e) (gName i) D σ H := by
  obtain ⟨H0, m0, f, σ0, ρ, cs, m, kp, ag, env, c, h⟩ := h
  rw [Mi.run] at h
  refine st_E kp ag env c h fun w cs1 v H1 m1 k1 k2 o env1 h1 => ?_
  cases o with
  | old r c1 =>
    have hn : w = Mi.fz w := r.noNew.symm
    cases w <;> first | (cases hn; done) | exact h1 H1 m1 _ k1 (ag.set hi) (env1.set r) c1
  | @new xs vs a cs' h2 h3 h4 h5 h6 =>
    have h1' : PSm K wr H0 m0 f σ0 D (.nx (ρ.set i (some (.ref cs1.length)))) (cs1 ++ [.lst xs]) := h1
    have kg : Keep H1 H1 m1 (m1 ++ [a]) → True := fun _ => trivial
    have k1' : Keep H0 H1 m0 (m1 ++ [a]) := k1.cellNew (kp.dom _ h2)
    have cg := h6.grow h3 h4 h5
    have hm : (m1 ++ [a])[cs1.length]? = some a := by
      rw [h6.len, List.getElem?_append_right (Nat.le_refl _), Nat.sub_self]
      rfl
    have envg : EnvR K H1 (m1 ++ [a]) f ρ σ := env.mono (k2.cellNew h2)
    exact h1' H1 (m1 ++ [a]) _ k1' (ag.set hi) (envg.set (.ref hm)) cg
theorem setT_ok {t : Mi.Tg} {e : Mi.Ex} (hw : ∀ i ∈ tgIx t, i ∈ wr) (h : tS O K CA Wx wr (.setT t e) D σ H) : tAsg (tE O K CA Wx e) (gM K t) D σ H := by
  obtain ⟨H0, m0, f, σ0, ρ, cs, m, kp, ag, env, c, h⟩ := h
  rw [Mi.run] at h
  refine st_E kp ag env c h fun w cs1 v H1 m1 k1 k2 o env1 h1 => ?_
  split at h1
  · rename_i ρ' e
    exact put_ok hw e o.rep env1 fun σ' env' a => h1 H1 m1 σ' k1 (ag.trans a) env' o.cells
  · exact h1.elim
theorem setI_ok {X : Cx} {eo ei e : Mi.Ex} (h : tS O X.K CA Wx wr (.setI eo ei e) D σ H) : tAsg (tE O X.K CA Wx e) (gSub (tE O X.K CA Wx eo) (tE O X.K CA Wx ei) (rvS X.K)) D σ H := by
  obtain ⟨H0, m0, f, σ0, ρ, cs, m, kp, ag, env, c, h⟩ := h
  rw [Mi.run] at h
  refine st_E kp ag env c h fun w cs1 v H1 m1 k1 k1' o env1 h1 => ?_
  refine st_E k1 ag env1 o.cells h1 fun w2 cs2 v2 H2 m2 k2 k2' o2 env2 h2 => ?_
  refine st_E k2 ag env2 o2.cells h2 fun w3 cs3 v3 H3 m3 k3 k3' o3 env3 h3 => ?_
  split at h3
  · rename_i cs' e
    refine ⟨w2, w3, Mi.fz w, cs3, cs', m3, f, o2.rep.mono k3', o3.rep, ?_, o3.cells, ?_, ?_⟩
    · exact ((o.rep.mono k2').mono k3').fz
    · have q : Mi.fz (Mi.fz w) = Mi.fz w := by cases w <;> rfl
      rw [q]
      exact e
    · intro H' k' c'
      exact h3 H' m3 σ (k3.trans k') ag (env3.mono k') c'
  · exact h3.elim
theorem par_ok {i j : Nat} {ea eb : Mi.Ex} {ta : TA} (hi : i ∈ wr) (hj : j ∈ wr) (hta : ∀ σ H (Q : List V → Hp → Prop), tE O K CA Wx ea σ H (fun v H1 => tE O K CA Wx eb σ H1 fun u H2 => Q [v, u] H2) → ta σ H Q) (h : tS O K CA Wx wr (.par i j ea eb) D σ H) : tPar i j ta D σ H := by
  obtain ⟨H0, m0, f, σ0, ρ, cs, m, kp, ag, env, c, h⟩ := h
  rw [Mi.run] at h
  refine hta _ _ _ (st_E kp ag env c h fun w cs1 v H1 m1 k1 k1' o env1 h1 => ?_)
  refine st_E k1 ag env1 o.cells h1 fun w2 cs2 v2 H2 m2 k2 k2' o2 env2 h2 => ?_
  exact ⟨v, v2, rfl, h2 H2 m2 _ k2 ((ag.set hi).set hj) ((env2.set (o.rep.mono k2')).set o2.rep) o2.cells⟩
theorem ex_ok {e : Mi.Ex} (h : tS O K CA Wx wr (.ex e) D σ H) : tDrop (tE O K CA Wx e) D σ H := by
  obtain ⟨H0, m0, f, σ0, ρ, cs, m, kp, ag, env, c, h⟩ := h
  rw [Mi.run] at h
  exact st_E kp ag env c h fun w cs1 v H1 m1 k1 k2 o env1 h1 => h1 H1 m1 σ k1 ag env1 o.cells
theorem ret_ok {e : Mi.Ex} (h : tS O K CA Wx wr (.ret e) D σ H) : tRet (tE O K CA Wx e) D σ H := by
  obtain ⟨H0, m0, f, σ0, ρ, cs, m, kp, ag, env, c, h⟩ := h
  rw [Mi.run] at h
  exact st_E kp ag env c h fun w cs1 v H1 m1 k1 k2 o env1 h1 => h1 v H1 m1 k1 (o.back kp)
theorem retN_ok (h : tS O K CA Wx wr .retN D σ H) : tRetN D σ H := by
  obtain ⟨H0, m0, f, σ0, ρ, cs, m, kp, ag, env, c, h⟩ := h
  rw [Mi.run] at h
  exact h _ H m kp (.old .non c)
theorem pass_ok (h : tS O K CA Wx wr .pass D σ H) : tNext D σ H := by
  obtain ⟨H0, m0, f, σ0, ρ, cs, m, kp, ag, env, c, h⟩ := h
  rw [Mi.run] at h
  exact h H m σ kp ag env c
theorem brk_ok (h : tS O K CA Wx wr .brk D σ H) : tBreak D σ H := by
  obtain ⟨H0, m0, f, σ0, ρ, cs, m, kp, ag, env, c, h⟩ := h
  rw [Mi.run] at h
  exact h H m σ kp ag env c
theorem cnt_ok (h : tS O K CA Wx wr .cnt D σ H) : tCont D σ H := by
  obtain ⟨H0, m0, f, σ0, ρ, cs, m, kp, ag, env, c, h⟩ := h
  rw [Mi.run] at h
  exact h H m σ kp ag env c
theorem fail_ok (h : tS O K CA Wx wr .fail D σ H) : tNever D σ H := by
  obtain ⟨H0, m0, f, σ0, ρ, cs, m, kp, ag, env, c, h⟩ := h
  rw [Mi.run] at h
  exact h
/-! ### several -/
theorem nil_ok (h : tSs O K CA Wx wr .nil D σ H) : tNext D σ H := by
  obtain ⟨H0, m0, f, σ0, ρ, cs, m, kp, ag, env, c, h⟩ := h
  rw [Mi.runs] at h
  exact h H m σ kp ag env c
theorem cons_ok {s : Mi.S} {ss : Mi.Ss} (h : tSs O K CA Wx wr (.cons s ss) D σ H) : tSeq (tS O K CA Wx wr s) (tSs O K CA Wx wr ss) D σ H := by
  obtain ⟨H0, m0, f, σ0, ρ, cs, m, kp, ag, env, c, h⟩ := h
  rw [Mi.runs] at h
  refine ⟨H0, m0, f, σ0, ρ, cs, m, kp, ag, env, c, h.bind.imp (fun _ _ z => z) fun fl cs1 h1 => ?_⟩
  cases fl with
  | nx ρ' => exact fun H' m' σ' k' a' e' c' => ⟨H0, m0, f, σ0, ρ', cs1, m', k', a', e', c', h1⟩
  | ret w => exact h1
  | bk ρ' => exact h1
  | ct ρ' => exact h1
theorem if_ok {e : Mi.Ex} {a b : Mi.Ss} (h : tS O K CA Wx wr (.ife e a b) D σ H) : tIfS (tTs O K CA Wx e) (tSs O K CA Wx wr a) (tSs O K CA Wx wr b) D σ H := by
  obtain ⟨H0, m0, f, σ0, ρ, cs, m, kp, ag, env, c, h⟩ := h
  rw [Mi.run] at h
  refine st_T kp ag env c h fun k cs1 H1 m1 k1 c1 env1 h1 => ?_
  cases k with
  | true => exact iteT ⟨H0, m0, f, σ0, ρ, cs1, m1, k1, ag, env1, c1, h1⟩
  | false => exact iteF ⟨H0, m0, f, σ0, ρ, cs1, m1, k1, ag, env1, c1, h1⟩
theorem while_ok {e : Mi.Ex} {b : Mi.Ss} (h : tS O K CA Wx wr (.while e b) D σ H) : tWhile (tTs O K CA Wx e) (tSs O K CA Wx wr b) D σ H := by
  obtain ⟨H0, m0, f, σ0, ρ, cs, m, kp, ag, env, c, h⟩ := h
  rw [Mi.run] at h
  refine ⟨fun k σ H => ∃ ρ cs m, Keep H0 H m0 m ∧ Agree wr σ0 σ ∧ EnvR K H m f ρ σ ∧ Cells K H m f cs ∧ Rw (ZSm K CA Wx wr H0 m0 f σ0) (Mi.whGo (fun ρ cs => Mi.test O ρ e cs) (fun ρ cs => Mi.runs O b ρ cs) k ρ cs) (PSm K wr H0 m0 f σ0 D), ⟨O.fuel, ρ, cs, m, kp, ag, env, c, h⟩, ?_⟩
  rintro k σ2 H2 ⟨ρ2, cs2, m2, kp2, ag2, env2, c2, h2⟩
  cases k with
  | zero =>
    unfold Mi.whGo at h2
    exact h2.elim
  | succ k =>
    unfold Mi.whGo at h2
    refine st_T kp2 ag2 env2 c2 h2 fun t cs3 H3 m3 k3 c3 env3 h3 => ?_
    cases t with
    | false => exact iteF (h3 H3 m3 σ2 k3 ag2 env3 c3)
    | true =>
      refine iteT ⟨fun σ' H' => ∃ ρ cs m, Keep H0 H' m0 m ∧ Agree wr σ0 σ' ∧ EnvR K H' m f ρ σ' ∧ Cells K H' m f cs ∧ Rw (ZSm K CA Wx wr H0 m0 f σ0) (Mi.whGo (fun ρ cs => Mi.test O ρ e cs) (fun ρ cs => Mi.runs O b ρ cs) k ρ cs) (PSm K wr H0 m0 f σ0 D), fun σ' H' q => ⟨k, Nat.lt_succ_self k, q⟩, H0, m0, f, σ0, ρ2, cs3, m3, k3, ag2, env3, c3, ?_⟩
      have h4 : Rw (ZSm K CA Wx wr H0 m0 f σ0) ((Mi.runs O b ρ2 cs3).bind fun fl cs => (match fl with
        | .nx ρ' => Mi.whGo (fun ρ cs => Mi.test O ρ e cs) (fun ρ cs => Mi.runs O b ρ cs) k ρ' cs
        | .ct ρ' => Mi.whGo (fun ρ cs => Mi.test O ρ e cs) (fun ρ cs => Mi.runs O b ρ cs) k ρ' cs
        | .bk ρ' => .ok (.nx ρ') cs
        | .ret w => .ok (.ret w) cs)) (PSm K wr H0 m0 f σ0 D) := h3
      refine h4.bind.imp (fun _ _ z => z) fun fl cs4 h5 => ?_
      cases fl with
      | nx ρ' => exact fun H' m' σ' k' a' e' c' => ⟨ρ', cs4, m', k', a', e', c', h5⟩
      | ct ρ' => exact fun H' m' σ' k' a' e' c' => ⟨ρ', cs4, m', k', a', e', c', h5⟩
      | bk ρ' => exact h5
      | ret w => exact h5
/-! ### for -/
def Fb (O : Orc) (t : Mi.Tg) (b : Mi.Ss) (x : W) (ρ : ME) (cs : List Ob) : R Mi.Fl :=
  match Mi.put t (Mi.fz x) ρ with
  | some ρ' => Mi.runs O b ρ' cs
  | none => .bad
theorem run_for {t : Mi.Tg} {it : Mi.It} {b : Mi.Ss} : Mi.run O (.for t it b) ρ cs = (Mi.evI O ρ it cs).bind fun s cs => Mi.forS (Fb O t b) s ρ cs := by
  rw [Mi.run]
  rfl
def aft (nx : ME → List Ob → R Mi.Fl) (fl : Mi.Fl) (cs : List Ob) : R Mi.Fl :=
  match fl with
  | .nx ρ => nx ρ cs
  | .ct ρ => nx ρ cs
  | .bk ρ => .ok (.nx ρ) cs
  | .ret w => .ok (.ret w) cs
theorem for_gen {t : Mi.Tg} {b : Mi.Ss} {P : Nat → Nat → (ME → List Ob → R Mi.Fl) → Prop} {J : It} {k0 : Nat} {g0 : ME → List Ob → R Mi.Fl} (env : EnvR K H1 m1 f ρ σ1) (c1 : Cells K H1 m1 f cs) (hw : ∀ i ∈ tgIx t, i ∈ wr)
    (hP : ∀ i k g ρ cs H m, P i k g → Keep H1 H m1 m → Cells K H m f cs → g ρ cs ≠ .bad → (J.stop i H ∧ g ρ cs = .ok (.nx ρ) cs) ∨ (J.go i H ∧ ∃ x k' g', k' < k ∧ P (i + 1) k' g' ∧ g ρ cs = (Fb O t b x ρ cs).bind (aft g') ∧ ∀ v H2, J.yld i H v H2 → Keep H H2 m m ∧ Cells K H2 m f cs ∧ Rep K H2 m f x v))
    (h0 : P 0 k0 g0) (h : Rw (ZSm K CA Wx wr H1 m1 f σ1) (g0 ρ cs) (PSm K wr H1 m1 f σ1 D)) :
    ∃ Wi : Nat → Nat → LS → Hp → Prop, (∃ m, Wi 0 m σ1 H1) ∧ ∀ i m σ H, Wi i m σ H →
      (J.stop i H ∧ D.nx σ H) ∨ (J.go i H ∧ ∃ N : LS → Hp → Prop, (∀ σ' H', N σ' H' → ∃ m', m' < m ∧ Wi (i + 1) m' σ' H') ∧ ∀ x H', J.yld i H x H' → gM K t x σ H' fun σ2 H2 => tSs O K CA Wx wr b { D with nx := N, ct := N, bk := D.nx } σ2 H2) := by
  refine ⟨fun i k σ H => ∃ g ρ cs m, P i k g ∧ Keep H1 H m1 m ∧ Agree wr σ1 σ ∧ EnvR K H m f ρ σ ∧ Cells K H m f cs ∧ Rw (ZSm K CA Wx wr H1 m1 f σ1) (g ρ cs) (PSm K wr H1 m1 f σ1 D), ⟨k0, g0, ρ, cs, m1, h0, Keep.refl, Agree.refl, env, c1, h⟩, ?_⟩
  rintro i k σ H ⟨g, ρ, cs, m, hp, kp, ag, env, cc, h⟩
  have nb : g ρ cs ≠ .bad := fun e => by
    rw [e] at h
    exact h
  rcases hP i k g ρ cs H m hp kp cc nb with ⟨st, e⟩ | ⟨go, x, k', g', hk, hp', e, hy⟩
  · rw [e] at h
    exact .inl ⟨st, h H m σ kp ag env cc⟩
  · rw [e] at h
    refine .inr ⟨go, fun σ' H' => ∃ m', m' < k ∧ ∃ g ρ cs m, P (i + 1) m' g ∧ Keep H1 H' m1 m ∧ Agree wr σ1 σ' ∧ EnvR K H' m f ρ σ' ∧ Cells K H' m f cs ∧ Rw (ZSm K CA Wx wr H1 m1 f σ1) (g ρ cs) (PSm K wr H1 m1 f σ1 D), fun σ' H' q => q, fun v H2 y => ?_⟩
    obtain ⟨k2, c2, r2⟩ := hy v H2 y
    unfold Fb at h
    split at h
    · rename_i ρ' ep
      refine put_ok hw ep r2.fz (env.mono k2) fun σ2 env2 a2 => ⟨H1, m1, f, σ1, ρ', cs, m, kp.trans k2, ag.trans a2, env2, c2, h.bind.imp (fun _ _ z => z) fun fl cs4 h5 => ?_⟩
      cases fl with
      | nx ρ'' => exact fun H' m' σ' kx a' e' c' => ⟨k', hk, g', ρ'', cs4, m', hp', kx, a', e', c', h5⟩
      | ct ρ'' => exact fun H' m' σ' kx a' e' c' => ⟨k', hk, g', ρ'', cs4, m', hp', kx, a', e', c', h5⟩
      | bk ρ'' => exact h5
      | ret w => exact h5
    · exact h.elim
theorem for_ok {t : Mi.Tg} {it : Mi.It} {b : Mi.Ss} (hw : ∀ i ∈ tgIx t, i ∈ wr) (h : tS O K CA Wx wr (.for t it b) D σ H) : tFor (tI O K CA Wx it) (gM K t) (tSs O K CA Wx wr b) D σ H := by
  obtain ⟨H0, m0, f, σ0, ρ, cs, m, kp, ag, env, c, h⟩ := h
  rw [run_for] at h
  refine st_I kp ag env c h fun s cs1 J H1 m1 k1 c1 env1 lv h1 => ?_
  have h2 : Rw (ZSm K CA Wx wr H1 m1 f σ) (Mi.forS (Fb O t b) s ρ cs1) (PSm K wr H1 m1 f σ D) := h1.imp (fun _ _ z => z.mono k1 ag) fun _ _ z => z.mono k1 ag
  cases s with
  | im xs =>
    refine for_gen (P := fun i k g => k = xs.length - i ∧ i ≤ xs.length ∧ g = Mi.forGo (Fb O t b) (xs.drop i)) (k0 := xs.length) (g0 := Mi.forGo (Fb O t b) xs) env1 c1 hw (fun i k g ρ cs H m hp kp cc nb => ?_) ⟨rfl, Nat.zero_le _, rfl⟩ h2
    obtain ⟨ek, hi, eg⟩ := hp
    have hv : LiveI K xs J H1 m1 f := lv
    obtain ⟨g1, g2, g3⟩ := hv H m f cs (.of kp) cc
    by_cases hlt : i < xs.length
    · refine .inr ⟨g1 i hlt, xs[i], k - 1, Mi.forGo (Fb O t b) (xs.drop (i + 1)), by omega, ⟨by omega, hlt, rfl⟩, ?_, fun v H2 y => ?_⟩
      · rw [eg, List.drop_eq_getElem_cons hlt]
        rfl
      · obtain ⟨k2, c2, w, ew, rw'⟩ := g3 i v H2 hlt y
        rw [List.getElem?_eq_getElem hlt] at ew
        cases ew
        exact ⟨k2, c2, rw'⟩
    · have ei : i = xs.length := by omega
      subst ei
      rw [eg, List.drop_length]
      exact .inl ⟨g2, rfl⟩
  | ce n len =>
    obtain ⟨a, hm, rfl⟩ := lv
    refine for_gen (P := fun i k g => g = Mi.forCe (Fb O t b) n i k) (k0 := len) (g0 := Mi.forCe (Fb O t b) n 0 len) env1 c1 hw (fun i k g ρ cs H m hp kp cc nb => ?_) rfl h2
    have hm' := kp.get hm
    subst hp
    cases k with
    | zero =>
      unfold Mi.forCe at nb ⊢
      split at nb
      · rename_i xs ex
        split at nb
        · rename_i hi
          obtain ⟨vs, h1, h2⟩ := cc.lst hm' ex
          rw [if_pos hi]
          exact .inl ⟨⟨vs, .of h1, by rw [← h2.length]; exact hi⟩, rfl⟩
        · exact absurd rfl nb
      · exact absurd rfl nb
    | succ k =>
      cases ex : Mi.cellL cs n with
      | none =>
        refine absurd ?_ nb
        unfold Mi.forCe
        rw [ex]
      | some xs =>
        cases hx : xs[i]? with
        | none =>
          refine absurd ?_ nb
          unfold Mi.forCe
          rw [ex]
          simp only
          rw [hx]
        | some x =>
          obtain ⟨vs, h1, h2⟩ := cc.lst hm' ex
          obtain ⟨v, h3, h4⟩ := h2.get hx
          refine .inr ⟨⟨vs, v, .of h1, h3⟩, x, k, Mi.forCe (Fb O t b) n (i + 1) k, Nat.lt_succ_self _, rfl, ?_, fun u H2 y => ?_⟩
          · rw [Mi.forCe]
            rw [ex]
            simp only
            rw [hx]
            rfl
          · obtain ⟨y1, y2⟩ := y
            subst y1
            have y3 := y2 vs (.of h1)
            rw [h3] at y3
            cases y3
            exact ⟨Keep.refl, cc, h4⟩
end
theorem psImp {X : Cx} {s : Stmt} {t t' : TS} (h : PS X s t) (i : ∀ D σ H, t' D σ H → t D σ H) : PS X s t' := ⟨fun pins s σ H D I hw => h.run pins s σ H D I (i D σ H hw)⟩
theorem pssImp {X : Cx} {s : List Stmt} {t t' : TS} (h : PSs X s t) (i : ∀ D σ H, t' D σ H → t D σ H) : PSs X s t' := ⟨fun pins s σ H D I hw => h.run pins s σ H D I (i D σ H hw)⟩
end So
end S_Stmts

section S_RevList
set_option Elab.async false
set_option linter.all false
set_option maxRecDepth 100000
set_option maxHeartbeats 4000000
/-! RevList: list(reversed(list)); sorted(set(list of ints)). -/
namespace So
open PySem PySem.Spec PyProof.Rows L2
open Mi (W Ob Xn R Orc)
def emL : Obj := { cls := .type "list", data := .seq #[] }
section
variable {prog : Program} {w : World} {A : Around} {E : Value → Shared → Prop} {s : Shared}
theorem extend_rv {it l S : Addr} {items : Array Value} {res : Value} {c0 : Nat} {Rz : Result → Shared → Prop} (hh : A.handled = none) (hR : s.heap.IsRevIter it l ((items.size : Int) - 1)) (hl : s.heap.IsList l items) (hne : l ≠ it) (hSi : S ≠ it) (hSl : S ≠ l) (hn : items.size ≤ sizeLine)
    (hS : s.heap.get? S = some { cls := .type "list", data := .seq #[] c0 }) (hQ : ∀ h' tk acc c', (∀ b o, b ≠ S → b ≠ it → s.heap.get? b = some o → h'.get? b = some o) → h'.get? S = some { cls := .type "list", dict := none, data := .seq acc c', slots := #[] } → ItemsOf (fun i v => items[items.size - 1 - i]? = some v) acc items.size → Rz (.ok (.ret res)) { s with heap := h', toks := tk }) :
    wpAny (model prog w) A.in1 (Builtin.List.listExtendWith (.ref S) (.ref it) res) (fun fin s' => match fin with | .done f => Rz (.ok f) s' | .again c' => c'.quiet = true ∧ codeAny (model prog w) A c' Rz s') (fun e s' => Rz (.error e) s') s := by
  have Wk := (Walks.listRev (prog := prog) (w := w) (A := A.in1) hh it l hne items).toS
  have hSf : S ∉ [it, l] := by simp [hSi, hSl]
  have hTy : s.TypeIs (.ref it) "list_reverseiterator" := Heap.IsRevIter.typeIs hR
  have hsame : Builtin.List.listSameRef (.ref S) (.ref it) = false := by simp [Builtin.List.listSameRef, hSi]
  unfold Builtin.List.listExtendWith
  refine wpAny_bind (wpAny_typeOf hTy ?_)
  rw [if_neg (by rw [hsame]; decide)]
  refine wpAny_bind (wpAny_pyIter_revIter hR (wpAny_bind (wpAny_holding ?_)))
  unfold Builtin.List.listLengthHint
  refine wpAny_bind (wpAny_specialOf hTy RT.nolen_lri ?_)
  show wpAny _ A.in1 (do let _ ← specialOf (Value.ref it) (Str.ofString "__length_hint__"); _) _ _ _
  refine wpAny_bind (wpAny_specialOf hTy RT.hint_lri ?_)
  generalize hid : ("list_reverseiterator.__length_hint__" : String) = hint0
  wp_delta
  rw [show splitId hint0 = some ("list_reverseiterator", "__length_hint__") from by subst hid; decide +kernel]
  subst hid
  refine wpAny_bind (wpAny_isInstance (b := true) hTy (by rw [isSubtype_type]; kernel_rfl) (wpAny_pure ?_))
  rw [if_neg (by decide)]
  have ez : ((items.size : Nat) : Int) - 1 - ((0 : Nat) : Int) = (items.size : Int) - 1 := by omega
  refine wpAny_pure ⟨plainId_quiet F.plain_extend_loop _, codeAny_extend_loopS Wk hn _ hSf _ items.size 0 _ _ _ rfl (Nat.zero_le _) ⟨Nat.zero_le _, by rw [ez]; exact hR, hl⟩ hS (ItemsOf.nil _) fun s1 acc1 c1 hm hS1 ha => ?_⟩
  rw [Moved.eq_with hm]
  refine hQ s1.heap s1.toks acc1 c1 (fun b o hb hb2 e => hm.heap b o (fun z => ?_) e) hS1 ha
  rcases List.mem_cons.mp z with e' | z
  · exact hb e'
  · exact hb2 (List.mem_singleton.mp z)
theorem call_list_rv {it l : Addr} {items : Array Value} {Q : Value → Shared → Prop} (hh : A.handled = none) (hR : s.heap.IsRevIter it l ((items.size : Int) - 1)) (hl : s.heap.IsList l items) (hne : l ≠ it) (hn : items.size ≤ sizeLine)
    (hQ : ∀ h' tk acc c', (∀ b o, b ≠ it → s.heap.get? b = some o → h'.get? b = some o) → h'.get? s.heap.objs.size = some { cls := .type "list", dict := none, data := .seq acc c', slots := #[] } → ItemsOf (fun i v => items[items.size - 1 - i]? = some v) acc items.size → Q (.ref s.heap.objs.size) { s with heap := h', toks := tk }) :
    wpAny (model prog w) A (call (.type "list") [.ref it]) Q E s := by
  refine callType_codes (Q₁ := fun obj s1 => obj = .ref s.heap.objs.size ∧ s1 = { s with heap := s.heap.push emL }) F.called_list (F.typeCall_list_1 _) F.entry_list_init (code_list_new _ ⟨rfl, rfl⟩) fun obj s1 h1 => ?_
  obtain ⟨rfl, rfl⟩ := h1
  have hS : (s.heap.push emL).get? s.heap.objs.size = some emL := Heap.get?_push_size _ rfl
  refine ⟨⟨_, hS, rfl⟩, F.args_list_init_2 _ _, ?_⟩
  obtain ⟨oi, hoi, _⟩ := id hR
  obtain ⟨ol, hol, _⟩ := id hl
  have hSi : s.heap.objs.size ≠ it := Nat.ne_of_gt (Heap.lt_size hoi)
  have hSl : s.heap.objs.size ≠ l := Nat.ne_of_gt (Heap.lt_size hol)
  unfold Builtin.«list.__init__»
  show wpAny _ A.in1.in1 (do let old ← Builtin.List.listItems (.ref s.heap.objs.size); Builtin.List.listUpdate (.ref s.heap.objs.size) (fun _ => #[]); letGo old.toList.reverse; Builtin.List.listExtendWith (.ref s.heap.objs.size) (.ref it) .none) _ _ _
  refine wpAny_bind ?_
  unfold Builtin.List.listItems
  refine wpAny_bind (wpAny_seqItems hS rfl (wpAny_pure ?_))
  show wpAny _ _ (do updateSeq s.heap.objs.size (fun _ => #[]); letGo (#[] : Array Value).toList.reverse; Builtin.List.listExtendWith (.ref s.heap.objs.size) (.ref it) .none) _ _ _
  refine wpAny_bind (wpAny_updateSeq hS rfl ?_)
  have hS2 := Heap.get?_update_self (Obj.mapSeq (fun _ => (#[] : Array Value))) hS rfl
  have oth : ∀ b o, b ≠ s.heap.objs.size → s.heap.get? b = some o → ((s.heap.push emL).update s.heap.objs.size (Obj.mapSeq (fun _ => (#[] : Array Value)))).get? b = some o :=
    fun b o hb e => (Heap.get?_update_other _ _ (Ne.symm hb)).trans (Heap.get?_push_of_some _ e)
  refine wpAny_bind (wpAny_letGo ?_)
  refine extend_rv (A := A.in1) (c0 := 0) hh (hR.at fun o e => oth _ o (Ne.symm hSi) e) ?_ hne hSi hSl hn hS2 fun h' tk acc c' hk hS' ha => ⟨rfl, hQ h' tk acc c' (fun b o hb e => hk b o (Nat.ne_of_lt (Heap.lt_size e)) hb (oth b o (Nat.ne_of_lt (Heap.lt_size e)) e)) hS' ha⟩
  obtain ⟨o, ho, r⟩ := hl
  exact ⟨o, oth _ o (Ne.symm hSl) ho, r⟩
end
/-- list(reversed(x)), x a list: a new list -/
def tLstRev (K : PySem.W.Frag) (te : TE) : TE := fun σ H Q => te σ H fun v H1 => ∃ (a : Addr) (xs : List V), v = .ref a ∧ SqL K H1 a xs ∧ ∀ q, H1 q = none → Q (.ref q) (upd H1 q (.lst xs.reverse))
section
variable {X : Cx}
theorem pe_lstRev {e : Expr} {te : TE} {p p2 pos pos2 : Pos} (hc : X.calm = true) (hg : Gl X "list") (hm : X.mg "list" = none) (hg2 : Gl X "reversed") (hm2 : X.mg "reversed" = none) (he : PE X e te) (hs : starEach [e] X.env = (false, eval e X.env) :: starEach [] X.env) :
    PE X (.Call (.Name "list" p) [.Call (.Name "reversed" p2) [e] [] pos2] [] pos) (tLstRev X.K te) := by
  have hs2 : starEach [.Call (.Name "reversed" p2) [e] [] pos2] X.env = (false, eval (.Call (.Name "reversed" p2) [e] [] pos2) X.env) :: starEach [] X.env := rfl
  refine ⟨fun pins s σ H Q I h => ?_⟩
  refine Call_ (ld_blt I hg hm boot_list (callWith_type1 (args_cons (Call_ (ld_blt I hg2 hm2 boot_reversed (callWith_type1 (args_cons (thn (he.run pins s σ H _ I h) fun u s1 ⟨v, H1, I1, r1, q1⟩ => args_nil ?_) hs) hs rfl))) hs2) hs2 rfl))
  obtain ⟨a, xs, ev, hq, q⟩ := q1
  subst ev
  obtain rfl : u = Value.ref a := r1
  obtain ⟨its, rv, p', hz⟩ := I1.list hq
  refine call_reversed_list p'.isList (args_nil ?_)
  have I2 : Inv X pins σ H1 { s1 with heap := s1.heap.push (revObj a ((its.toArray.size : Int) - 1)) } := I1.kept (t' := s1.toks) fun b o e => Heap.get?_push_of_some _ e
  obtain ⟨f0, f1, f2, f3, f4, f5⟩ := I1.fpOk (H' := H1) (b := s1.heap.objs.size) (Nat.le_refl _) (I1.hok.fresh (Nat.le_refl _))
  obtain ⟨ol, hol, _⟩ := id p'.isList
  have hne : a ≠ s1.heap.objs.size := Nat.ne_of_lt (Heap.lt_size hol)
  have hn : its.toArray.size ≤ sizeLine := by rw [List.size_toArray, ← rv.length]; exact hz
  refine call_list_rv (s := { s1 with heap := s1.heap.push (revObj a ((its.toArray.size : Int) - 1)) }) (I1.ok.hd hc) ⟨_, Heap.get?_push_size _ rfl, rfl, rfl⟩ (p'.isList.push _) hne hn fun h' tk acc c' hk hS hi => ?_
  have old : ∀ b o, s1.heap.get? b = some o → h'.get? b = some o := fun b o e => hk b o (Nat.ne_of_lt (Heap.lt_size e)) (Heap.get?_push_of_some _ e)
  have hsz : s1.heap.objs.size ≤ (s1.heap.push (revObj a ((its.toArray.size : Int) - 1))).objs.size := by
    rw [Heap.size_push]
    exact Nat.le_succ _
  refine ⟨.ref _, upd H1 _ (.lst xs.reverse), I1.laid (t' := tk) old hsz (show ObjOk X.prog X.w _ _ _ (.lst xs.reverse) from ⟨by rw [List.length_reverse]; exact hz, acc.toList, c', RT.vals_rev rv hi, ?_⟩), rfl, q _ (I1.hok.fresh hsz)⟩
  rw [Array.toArray_toList]
  exact hS
/-- sorted(set(x)), x a list of ints, fewer than 64 -/
def tSortS (K : PySem.W.Frag) (te : TE) : TE := fun σ H Q => te σ H fun v H1 => ∃ (a : Addr) (ns : List Int), v = .ref a ∧ SqL K H1 a (ns.map V.int) ∧ ns.length < 64 ∧ ∀ (ms : List Int) (q : Addr), ms.Pairwise (· < ·) → (∀ k : Int, k ∈ ms ↔ k ∈ ns) → H1 q = none → Q (.ref q) (upd H1 q (.lst (ms.map V.int)))
end
end So
end S_RevList

section S_SetList
set_option Elab.async false
set_option linter.all false
set_option maxRecDepth 100000
set_option maxHeartbeats 4000000
/-! SetList: set(list of ints), for sorted. -/
namespace So
open PySem PySem.Spec PyProof.Rows L2
open Mi (W Ob Xn R Orc)
def emS (w : World) : Obj := { cls := .type "set", dict := none, data := .set #[] 0 (.fresh 0 0 (!w.params.followText "set-order")) }
section
variable {P : Program} {w : World} {A : Around} {E : Value → Shared → Prop} {s : Shared}
theorem set_init_list {l S : Addr} {items : Array Value} (ns : List Int) {Rz : Result → Shared → Prop} (hh : A.handled = none) (hl : s.heap.IsList l items) (hit : IntsAre items.toList ns) (hb : ns.length + 1 < scanBound) (hS : s.heap.get? S = some (emS w)) (hlS : l ≠ S)
    (hR : ∀ (h' : Heap) (tk c : Nat), SetR w h' S (fun j => decide (j ∈ ns)) c → c ≤ ns.length → (∀ b o, b ≠ S → s.heap.get? b = some o → h'.get? b = some o) → Rz (.ok (.ret .none)) { s with heap := h', toks := tk }) :
    wpAny (model P w) A.in1 (Builtin.«set.__init__» ⟨[.ref S, .ref l], []⟩) (fun fin s' => match fin with | .done f => Rz (.ok f) s' | .again c' => c'.quiet = true ∧ codeAny (model P w) A c' Rz s') (fun e s' => Rz (.error e) s') s := by
  have hsz : items.size = ns.length := (Array.length_toList (xs := items)).symm.trans hit.length
  obtain ⟨ol, hol, hcl, nl, hdl⟩ := hl
  obtain ⟨ocls, odict, odata, oslots⟩ := ol
  simp only at hcl hdl
  subst hcl
  subst hdl
  have q1 := F.sub_list_set
  have q2 := F.sub_list_frozenset
  have q3 : (Value.type "list" == Value.type "dict") = false := by decide
  have hl1 : s.heap.IsList l items := ⟨_, hol, rfl, nl, rfl⟩
  unfold Builtin.«set.__init__» noKeywords Builtin.Frozenset.updateFrom
  generalize hPI : pyIter = PI
  wp_walk
  subst hPI
  refine wpAny_pyIter_list hl1 (wpAny_bind (wpAny_runValue ?_))
  have hI : l ≠ s.heap.objs.size := Nat.ne_of_lt (Heap.lt_size hol)
  have hSI : S ≠ s.heap.objs.size := Nat.ne_of_lt (Heap.lt_size hS)
  have hSf : S ∉ [s.heap.objs.size, l] := by simp [hSI, Ne.symm hlS]
  have hval : ∀ (i : Nat) (v : Value), items[i]? = some v → ∃ k t, ns[i]? = some k ∧ v = .int k t := fun i v hv => by
    have hi : i < ns.length := hsz ▸ (Array.getElem?_eq_some_iff.mp hv).1
    obtain ⟨t, e⟩ := IntsAre.int_at hit i v (by rw [Array.getElem?_toList]; exact hv)
    exact ⟨ns[i], t, List.getElem?_eq_getElem hi, by rw [e, List.getD_eq_getElem?_getD, List.getElem?_eq_getElem hi]; rfl⟩
  have hh3 : A.in1.in1.handled = none := by simp [hh]
  refine set_update_ints (Walks.list hh3 _ l hI items).toS S hSf ns hsz hb hval (items.size - 0) 0 _ (by omega) (Nat.zero_le _) ⟨⟨_, Heap.get?_push_size _ rfl, rfl, rfl⟩, hl1.push _⟩ ⟨0, Nat.le_refl 0, setR_new_at (Heap.get?_push_of_some _ hS)⟩ fun s' c' hm hc' hS' => ?_
  obtain ⟨h', g2, d', tk', os'⟩ := s'
  have eg : g2 = s.gens := hm.gens
  have ed : d' = s.drawn := hm.drawn
  have eo : os' = s.os := hm.os
  subst eg ed eo
  refine wpAny_pure (wpAny_pure (hR h' tk' c' hS' (by rw [← hsz]; exact hc') fun b o hb e => hm.heap b o (fun z => ?_) (Heap.get?_push_of_some _ e)))
  rcases List.mem_cons.mp z with z | z
  · exact hb z
  · exact absurd (Heap.lt_size e) (by rw [List.mem_singleton.mp z]; exact Nat.lt_irrefl _)
theorem call_set_listI {l : Addr} {items : Array Value} (ns : List Int) {Q : Value → Shared → Prop} (hh : A.handled = none) (hl : s.heap.IsList l items) (hit : IntsAre items.toList ns) (hb : ns.length + 1 < scanBound)
    (h : ∀ (h' : Heap) (tk c : Nat), SetR w h' s.heap.objs.size (fun j => decide (j ∈ ns)) c → c ≤ ns.length → (∀ b o, s.heap.get? b = some o → h'.get? b = some o) → Q (.ref s.heap.objs.size) { s with heap := h', toks := tk }) :
    wpAny (model P w) A (call (.type "set") [.ref l]) Q E s := by
  have q3 := F.called_set.notType
  have q4 := F.called_set.canCreate
  have q5 := F.typeCall_set_1 (.ref l)
  have q6 := F.called_set.made
  have q7 := F.called_set.sub
  obtain ⟨c0, tl0, q8⟩ := F.called_set.mro
  have hlS : l ≠ s.heap.objs.size := by
    obtain ⟨o, ho, _⟩ := id hl
    exact Nat.ne_of_lt (Heap.lt_size ho)
  have hS : (s.heap.push (emS w)).get? s.heap.objs.size = some (emS w) := Heap.get?_push_size _ rfl
  have hT : Shared.TypeIs { s with heap := s.heap.push (emS w) } (.ref s.heap.objs.size) "set" := ⟨_, hS, rfl⟩
  refine wpAny_call (codeAny_of_tree (show wpAny _ _ (callAny (.type "set") _) _ _ _ from wpAny_pure ⟨Code.quiet_builtin _ (by decide +kernel), codeAny_builtin F.entry_type_call ?_⟩))
  rw [Around.under_plain (weight_type_call_type "set" [.ref l] []) rfl]
  repeat any_goals first | assumption | wp_step
  refine codeAny_mono (code_set_led1 (.ref l) (E := E) (Q₁ := fun ob s1 => ob = .ref s.heap.objs.size ∧ s1 = { s with heap := s.heap.push (emS w) }) ⟨rfl, rfl⟩) fun r s1 hr => ?_
  match r, hr with
  | .error _, hr => exact hr
  | .ok .next, hr => exact hr.elim
  | .ok .brk, hr => exact hr.elim
  | .ok .cont, hr => exact hr.elim
  | .ok (.ret obj), hr =>
    obtain ⟨rfl, rfl⟩ := hr
    have q9 := F.called_set.init.lookup
    have q10 := F.called_set.init.bind (.ref s.heap.objs.size)
    repeat any_goals first | assumption | wp_step
    refine codeAny_mono (codeAny_call_builtin (R := wants (fun r s2 => r = .none ∧ Q (.ref s.heap.objs.size) s2) E) F.called_set.init.plain F.entry_set_init (check_set_init_1 hT ?_)) fun r2 s2 hr2 => ?_
    · exact set_init_list (s := { s with heap := s.heap.push (emS w) }) ns hh (hl.push _) hit hb hS hlS fun h' tk c r hc hk => ⟨rfl, h h' tk c r hc fun b o e => hk b o (Nat.ne_of_lt (Heap.lt_size e)) (Heap.get?_push_of_some _ e)⟩
    · match r2, hr2 with
      | .error _, hr2 => exact hr2
      | .ok .next, hr2 => exact hr2.elim
      | .ok .brk, hr2 => exact hr2.elim
      | .ok .cont, hr2 => exact hr2.elim
      | .ok (.ret v2), hr2 =>
        obtain ⟨rfl, hq⟩ := hr2
        repeat any_goals first | assumption | wp_step
end
section
variable {X : Cx}
theorem pe_sortS {e : Expr} {te : TE} {p p2 pos pos2 : Pos} (hc : X.calm = true) (hg : Gl X "sorted") (hm : X.mg "sorted" = none) (hg2 : Gl X "set") (hm2 : X.mg "set" = none) (he : PE X e te) (hs : starEach [e] X.env = (false, eval e X.env) :: starEach [] X.env) :
    PE X (.Call (.Name "sorted" p) [.Call (.Name "set" p2) [e] [] pos2] [] pos) (tSortS X.K te) := by
  have hs2 : starEach [.Call (.Name "set" p2) [e] [] pos2] X.env = (false, eval (.Call (.Name "set" p2) [e] [] pos2) X.env) :: starEach [] X.env := rfl
  refine ⟨fun pins s σ H Q I h => ?_⟩
  refine Call_ (ld_blt I hg hm boot_sorted (callWith_builtin1 (args_cons (Call_ (ld_blt I hg2 hm2 boot_set (callWith_type1 (args_cons (thn (he.run pins s σ H _ I h) fun u s1 ⟨v, H1, I1, r1, q1⟩ => args_nil ?_) hs) hs rfl))) hs2) hs2 rfl))
  obtain ⟨a, ns, ev, hq, h64, q⟩ := q1
  subst ev
  obtain rfl : u = Value.ref a := r1
  obtain ⟨its, rv, pl, hz⟩ := I1.list hq
  have hit : IntsAre its.toArray.toList ns := by simpa using RZ.intsAre_vals rv
  refine call_set_listI (w := X.w) ns (I1.ok.hd hc) pl.isList hit (by unfold scanBound; omega) fun h' tk c Rs hcn hk => args_nil ?_
  have I2 : Inv X pins σ H1 { s1 with heap := h', toks := tk } := I1.kept hk
  refine sorted_set (s := { s1 with heap := h', toks := tk }) Rs (I1.ok.hd hc) (by omega) fun s' p out cc ms k g o hp hgp hi hsr hm hl => ?_
  have hlen : (ms.map V.int).length ≤ sizeLine := by rw [List.length_map, hl, sizeLine_eq]; omega
  have hn : H1 p = none := I2.hok.fresh hp
  have k' : ∀ b u, s1.heap.get? b = some u → s'.heap.get? b = some u := fun b u e => k b u (hk b u e)
  have hp' : s1.heap.objs.size ≤ p := Nat.le_trans (Nat.le_of_lt Rs.lt) hp
  have J : Inv X pins σ (upd H1 p (.lst (ms.map V.int))) { s1 with heap := s'.heap, gens := s'.gens, drawn := s'.drawn, toks := s'.toks } :=
    I1.call (ch := []) (Un.laid k' hp' hn) (I1.hok.laid k' hp' ⟨hlen, out.toList, cc, vals_of_ints hi, hgp⟩) (by rw [g]; exact I1.bare) (fun _ z => nomatch z)
  have es : s' = { s1 with heap := s'.heap, gens := s'.gens, drawn := s'.drawn, toks := s'.toks } := by
    cases s'
    cases s1
    cases o
    rfl
  rw [es]
  exact ⟨.ref p, _, J, rfl, q ms p hsr (fun j => (hm j).trans decide_eq_true_iff) hn⟩
/-! ### the rules -/
theorem onceI_mem : ∀ (xs : List Int) (k : Int), k ∈ Mi.onceI xs ↔ k ∈ xs
  | [], k => Iff.rfl
  | x :: xs, k => by
    unfold Mi.onceI
    split
    · rename_i h
      rw [onceI_mem xs k, List.mem_cons]
      exact ⟨.inr, fun z => z.elim (fun e => by rw [e]; exact List.contains_iff_mem.mp h) id⟩
    · rw [List.mem_cons, List.mem_cons, onceI_mem xs k]
theorem onceI_nd : ∀ xs : List Int, (Mi.onceI xs).Nodup
  | [] => List.nodup_nil
  | x :: xs => by
    unfold Mi.onceI
    split
    · exact onceI_nd xs
    · rename_i h
      refine List.nodup_cons.mpr ⟨fun z => h ?_, onceI_nd xs⟩
      exact List.contains_iff_mem.mpr ((onceI_mem xs x).mp z)
theorem lt_of_srt : ∀ {xs : List Int}, xs.Pairwise (· ≤ ·) → xs.Nodup → xs.Pairwise (· < ·)
  | [], _, _ => .nil
  | x :: xs, h, n => by
    rw [List.pairwise_cons] at h ⊢
    rw [List.nodup_cons] at n
    refine ⟨fun y hy => ?_, lt_of_srt h.2 n.2⟩
    have := h.1 y hy
    have : x ≠ y := fun e => n.1 (by rw [e]; exact hy)
    omega
theorem lt_uniq : ∀ {xs ys : List Int}, xs.Pairwise (· < ·) → ys.Pairwise (· < ·) → (∀ k, k ∈ xs ↔ k ∈ ys) → xs = ys
  | [], [], _, _, _ => rfl
  | [], y :: ys, _, _, h => absurd ((h y).mpr List.mem_cons_self) (by simp)
  | x :: xs, [], _, _, h => absurd ((h x).mp List.mem_cons_self) (by simp)
  | x :: xs, y :: ys, hx, hy, h => by
    rw [List.pairwise_cons] at hx hy
    have e : x = y := by
      rcases List.mem_cons.mp ((h x).mp List.mem_cons_self) with z | z
      · exact z
      · rcases List.mem_cons.mp ((h y).mpr List.mem_cons_self) with z' | z'
        · exact z'.symm
        · have := hx.1 y z'
          have := hy.1 x z
          omega
    subst e
    rw [lt_uniq hx.2 hy.2 fun k => ?_]
    constructor
    · intro hk
      rcases List.mem_cons.mp ((h k).mp (List.mem_cons_of_mem _ hk)) with z | z
      · have := hx.1 k hk
        omega
      · exact z
    · intro hk
      rcases List.mem_cons.mp ((h k).mpr (List.mem_cons_of_mem _ hk)) with z | z
      · have := hy.1 k hk
        omega
      · exact z
theorem sortS_uniq {ms ns : List Int} (h : ms.Pairwise (· < ·)) (hm : ∀ k, k ∈ ms ↔ k ∈ ns) : ms = Mi.sortI (Mi.onceI ns) := by
  have p := sortI_perm (Mi.onceI ns)
  refine lt_uniq h (lt_of_srt (sortI_srt _) (p.nodup_iff.mpr (onceI_nd ns))) fun k => ?_
  rw [hm k, p.mem_iff, onceI_mem]
variable {O : Orc} {CA : Nat → Addr} {Wx : WX} {a : Expr} {ea : Mi.Ex} {p p2 pos pos2 : Pos}
theorem te_listR (hc : X.calm = true) (hg : Gl X "list") (hm : X.mg "list" = none) (hg2 : Gl X "reversed") (hm2 : X.mg "reversed" = none) (ha : PE X a (tE O X.K CA Wx ea)) (hs : starEach [a] X.env = (false, eval a X.env) :: starEach [] X.env) :
    PE X (.Call (.Name "list" p) [.Call (.Name "reversed" p2) [a] [] pos2] [] pos) (tE O X.K CA Wx (.listR ea)) :=
  peImp (pe_lstRev hc hg hm hg2 hm2 ha hs) fun σ H Q ⟨ρ, cs, m, f, env, c, h⟩ => by
    rw [Mi.ev] at h
    refine tE_then env c h fun w cs1 v H1 m1 k1 o1 env1 h1 => ?_
    split at h1
    · rename_i xs e
      obtain ⟨a, vs, ev, hl, rs⟩ := rep_itemsL o1.cells o1.rep e
      refine ⟨a, vs, ev, .of hl, fun q hq => h1 _ _ m1 (k1.trans (Keep.new hq)) ((out_new o1.cells hq rs.reverse).back k1)⟩
    · exact h1.elim
theorem te_sortS (hc : X.calm = true) (hg : Gl X "sorted") (hm : X.mg "sorted" = none) (hg2 : Gl X "set") (hm2 : X.mg "set" = none) (ha : PE X a (tE O X.K CA Wx ea)) (hs : starEach [a] X.env = (false, eval a X.env) :: starEach [] X.env) :
    PE X (.Call (.Name "sorted" p) [.Call (.Name "set" p2) [a] [] pos2] [] pos) (tE O X.K CA Wx (.sortS ea)) :=
  peImp (pe_sortS hc hg hm hg2 hm2 ha hs) fun σ H Q ⟨ρ, cs, m, f, env, c, h⟩ => by
    rw [Mi.ev] at h
    refine tE_then env c h fun w cs1 v H1 m1 k1 o1 env1 h1 => ?_
    split at h1
    · rename_i ns e
      split at h1
      · rename_i h64
        cases ei : Mi.itemsL cs1 w with
        | none =>
          rw [ei] at e
          cases e
        | some xs =>
          rw [ei] at e
          obtain ⟨a, vs, ev, hl, rs⟩ := rep_itemsL o1.cells o1.rep ei
          have evs := intsW_of rs e
          subst evs
          refine ⟨a, ns, ev, .of hl, h64, fun ms q hms hmm hq => ?_⟩
          have em := sortS_uniq hms hmm
          subst em
          exact h1 _ _ m1 (k1.trans (Keep.new hq)) ((out_new o1.cells hq (Reps.ints _)).back k1)
      · exact h1.elim
    · exact h1.elim
end
end So
end S_SetList

section S_Check
set_option Elab.async false
set_option linter.all false
set_option maxRecDepth 100000
set_option maxHeartbeats 4000000
/-! Check: a mini tree against the text. -/
namespace So
open PySem PySem.Spec PyProof.Rows L2
open Mi (W Ob Xn R Orc)
/-- what the checker knows of the names of the module -/
structure Tb where
  gl : Str → Bool
  df : Str → Option Nat
  kw : Str → List Str → List Nat → Bool
structure Cc where
  N : List Str
  sc : Scope
  fn : Str → Bool
def locC (c : Cc) (x : Str) : Bool := match c.sc.names.lookup x with
  | some .local => true
  | _ => false
def visC (c : Cc) (x : Str) : Bool := match c.sc.names.lookup x with
  | some .local => true
  | some .cell => true
  | some .free => true
  | _ => false
def glC (c : Cc) (x : Str) : Bool := match c.sc.names.lookup x with
  | some .globalImplicit => true
  | _ => false
def okN (x : Str) : Bool := !(x == ("__debug__" : Str)) && !(x == ("__classdict__" : Str)) && !(x == ("__name__" : Str))
def slotC (c : Cc) (i : Nat) (x : Str) : Bool := decide (c.N[i]? = some x)
/-- a name that is stored to -/
def stoC (c : Cc) (i : Nat) (x : Str) : Bool := slotC c i x && (match c.sc.names.lookup x with
  | some .local => true
  | some .cell => c.fn x
  | _ => false)
def isOp : Mi.Bop → Operator → Bool
  | .add, .Add => true
  | .sub, .Sub => true
  | .mul, .Mult => true
  | .fdiv, .FloorDiv => true
  | .mod, .Mod => true
  | .pow, .Pow => true
  | .shl, .LShift => true
  | .shr, .RShift => true
  | .band, .BitAnd => true
  | .bor, .BitOr => true
  | .bxor, .BitXor => true
  | _, _ => false
def isCop : Mi.Cop → CmpOp → Bool
  | .eq, .Eq => true
  | .ne, .NotEq => true
  | .lt, .Lt => true
  | .le, .LtE => true
  | .gt, .Gt => true
  | .ge, .GtE => true
  | .isin, .In => true
  | .notin, .NotIn => true
  | .isN, .Is => true
  | .notN, .IsNot => true
  | _, _ => false
theorem isOp_eq {a : Mi.Bop} {o : Operator} (h : isOp a o = true) : o = bopOf a := by
  cases a <;> cases o <;> first | rfl | cases h
theorem isCop_eq {a : Mi.Cop} {o : CmpOp} (h : isCop a o = true) : o = copOf a := by
  cases a <;> cases o <;> first | rfl | cases h
def bltN : Mi.Blt → Str
  | .len => "len" | .abs => "abs" | .int => "int" | .max2 => "max" | .max1 => "max" | .min2 => "min" | .min1 => "min" | .sum => "sum" | .any => "any" | .all => "all" | .sorted => "sorted" | .list => "list" | .tuple => "tuple" | .lenSet => "len" | .sortSet => "sorted"
def bltNs : List Str := ["len", "abs", "int", "max", "min", "sum", "any", "all", "sorted", "list", "tuple", "isinstance", "bool", "str", "range", "enumerate", "zip", "reversed", "set"]
def noStar : Expr → Bool
  | .Starred .. => false
  | _ => true
theorem star_cons {e : Expr} {es : List Expr} {env : PySem.Env} (h : noStar e = true) : starEach (e :: es) env = (false, eval e env) :: starEach es env := by
  cases e <;> first | rfl | cases h
/-- a test whose truth is its value's -/
def plainT : Expr → Bool
  | .UnaryOp .Not _ _ => false
  | .BoolOp .. => false
  | .IfExp .. => false
  | .Compare .. => false
  | _ => true
theorem plainT_ok {e : Expr} {env : PySem.Env} (h : plainT e = true) : ∀ whole, isTrue e env whole = (do let v ← whole; standAt e.pos; holding [v] (truthy v)) := by
  intro whole
  cases e <;> first | rfl | (cases h; done) | skip
  rename_i op _ _
  cases op <;> first | rfl | cases h
def isBo : Expr → Bool
  | .BoolOp .. => true
  | _ => false
theorem plainT_bo {e : Expr} (h : plainT e = true) : isBo e = false := by
  cases e <;> first | rfl | cases h
def noSlice : Expr → Bool
  | .Slice .. => false
  | _ => true
theorem noSlice_ok {e : Expr} (h : noSlice e = true) : PlainIx e := fun o i => by
  cases e <;> first | rfl | cases h
def noSet : Expr → Bool
  | .Set .. => false
  | _ => true
theorem noSet_ok {e : Expr} {env : PySem.Env} (h : noSet e = true) : ∀ x, foldedSetIterable e env x = pure x := fun x => by
  cases e <;> first | rfl | cases h
def noCall : Expr → Bool
  | .Call .. => false
  | _ => true
theorem noCall_ok {e : Expr} {env : PySem.Env} {attr : Str} {t : Sem Value} (h : noCall e = true) : attributeBase e attr env t = t := by
  cases e <;> first | rfl | cases h
def noComp : Expr → Bool
  | .ListComp .. => false
  | .SetComp .. => false
  | .DictComp .. => false
  | _ => true
theorem noComp_ok {e : Expr} {tg : Option Expr} {n : Nat} {env : PySem.Env} (h : noComp e = true) : swapsWith e tg n env = pure false := by
  cases e <;> first | rfl | cases h
def mthN : Mi.Mth → Str
  | .append => "append" | .pop => "pop" | .popAt => "pop" | .extend => "extend"
/-- whether a def of that number -/
def isDf (T : Tb) (x : Str) (f : Nat) : Bool := match T.df x with
  | some n => n == f
  | none => false
def tgNs (c : Cc) : List Nat → List Expr → Bool
  | [], [] => true
  | i :: is, .Name x _ :: es => stoC c i x && tgNs c is es
  | _, _ => false
def kG (c : Cc) (t : Mi.Tg) (e : Expr) : Bool := match t, e with
  | .nm i, .Name x _ => stoC c i x
  | .tp is, .Tuple es _ _ => tgNs c is es
  | _, _ => false
def isTup : Expr → Bool
  | .Tuple .. => true
  | _ => false
/-- the context of a comprehension -/
def blkCc (c : Cc) (scope : Scope) : Cc := ⟨c.N, relS scope c.sc, fun x => scope.names.lookup x == some .cell⟩
def ownN (c : Cc) (own : List Nat) : List (Str × Nat) := own.map fun i => (c.N.getD i "", i)
theorem ownN_snd (c : Cc) : ∀ own : List Nat, (ownN c own).map (·.2) = own
  | [] => rfl
  | i :: is => congrArg (i :: ·) (ownN_snd c is)
def kwNs : List Keyword → List Str
  | [] => []
  | ⟨some n, _, _⟩ :: ks => n :: kwNs ks
  | ⟨none, _, _⟩ :: ks => kwNs ks
def kwAll : List Keyword → Bool
  | [] => true
  | ⟨some _, _, _⟩ :: ks => kwAll ks
  | ⟨none, _, _⟩ :: _ => false
/-- the plain built-ins -/
def isB (b : Mi.Blt) : Bool := match b with
  | .lenSet => false
  | .sortSet => false
  | _ => true
mutual
/-- t: as a test -/
def kE (T : Tb) : Mi.Ex → Bool → Cc → Expr → Bool
  | .var i, t, c, x => (match x with
    | .Name y _ => slotC c i y && visC c y && okN y
    | _ => false)
  | .non, t, c, x => (match x with
    | .Constant .none _ _ => true
    | _ => false)
  | .bl b, t, c, x => (match x with
    | .Constant (.bool d) _ _ => b == d
    | _ => false)
  | .int i, t, c, x => (match x with
    | .Constant (.int j) _ _ => decide (i = j)
    | _ => false)
  | .str s, t, c, x => (match x with
    | .Constant (.str r) _ _ => decide (s = r)
    | _ => false)
  | .glob y, t, c, x => (match x with
    | .Name z _ => decide (y = z) && glC c z && T.gl z && okN z
    | _ => false)
  | .bin op a b, t, c, x => (match x with
    | .BinOp l o r _ => isOp op o && kE T a false c l && kE T b false c r
    | _ => false)
  | .neg a, t, c, x => (match x with
    | .UnaryOp .USub y _ => kE T a false c y
    | _ => false)
  | .not a, t, c, x => (match x with
    | .UnaryOp .Not y _ => kE T a t c y
    | _ => false)
  | .and a b, t, c, x => (match x with
    | .BoolOp .And [y, z] _ => kE T a t c y && kE T b t c z
    | .BoolOp .And (y :: z :: u :: us) p => kE T a t c y && kE T b t c (.BoolOp .And (z :: u :: us) p)
    | _ => false)
  | .or a b, t, c, x => (match x with
    | .BoolOp .Or [y, z] _ => kE T a t c y && kE T b t c z
    | .BoolOp .Or (y :: z :: u :: us) p => kE T a t c y && kE T b t c (.BoolOp .Or (z :: u :: us) p)
    | _ => false)
  | .cmp op a b, t, c, x => (match x with
    | .Compare l [o] [r] _ => isCop op o && !behindInMarks o r && kE T a false c l && kE T b false c r
    | _ => false)
  | .chain op op' a b d, t, c, x => (match x with
    | .Compare l [o, o'] [r, s] _ => isCop op o && isCop op' o' && !lastMarks [o, o'] [r, s] && kE T a false c l && kE T b false c r && kE T d false c s
    | _ => false)
  | .ifx q a b, t, c, x => (match x with
    | .IfExp y z u _ => !t && kE T q true c y && kE T a false c z && kE T b false c u
    | _ => false)
  | .callP f as, t, c, x => (match x with
    | .Call (.Name y _) (e :: es) [] _ => isDf T y f && glC c y && okN y && kAs T as c (e :: es)
    | _ => false)
  | .callH f as, t, c, x => (match x with
    | .Call (.Name y _) (e :: es) [] _ => isDf T y f && glC c y && okN y && kAs T as c (e :: es)
    | _ => false)
  | .callPK f as pm, t, c, x => (match x with
    | .Call (.Name y _) [] ks _ => isDf T y f && glC c y && okN y && T.kw y (kwNs ks) pm && kwAll ks && kKs T as c ks
    | _ => false)
  | .blt b as, t, c, x => (match x with
    | .Call (.Name y _) (e :: es) [] _ => isB b && decide (y = bltN b) && glC c y && kAs T as c (e :: es)
    | _ => false)
  | .listI a b, t, c, x => (match x with
    | .Call (.Name y _) [.Call (.Name z _) [e, e'] [] _] [] _ => decide (y = ("list" : Str)) && glC c y && decide (z = ("range" : Str)) && glC c z && noStar e && noStar e' && kE T a false c e && kE T b false c e'
    | _ => false)
  | .listJ a, t, c, x => (match x with
    | .Call (.Name y _) [.Call (.Name z _) [e] [] _] [] _ => decide (y = ("list" : Str)) && glC c y && decide (z = ("range" : Str)) && glC c z && noStar e && kE T a false c e
    | _ => false)
  | .listR a, t, c, x => (match x with
    | .Call (.Name y _) [.Call (.Name z _) [e] [] _] [] _ => decide (y = ("list" : Str)) && glC c y && decide (z = ("reversed" : Str)) && glC c z && noStar e && kE T a false c e
    | _ => false)
  | .sortS a, t, c, x => (match x with
    | .Call (.Name y _) [.Call (.Name z _) [e] [] _] [] _ => decide (y = ("sorted" : Str)) && glC c y && decide (z = ("set" : Str)) && glC c z && noStar e && kE T a false c e
    | _ => false)
  | .meth m o as, t, c, x => (match x with
    | .Call (.Attribute e a ap) es [] p => decide (a = mthN m) && noCall e && (ap.endLine == p.line) && kE T o false c e && kAs T as c es && (match m, es with
      | .pop, [] => true
      | .popAt, [_] => true
      | .append, [_] => true
      | .extend, [_] => true
      | _, _ => false)
    | _ => false)
  | .isi a ty, t, c, x => (match x with
    | .Call (.Name y _) [e, .Name z _] [] _ => decide (y = ("isinstance" : Str)) && glC c y && decide (z = tyOf ty) && glC c z && noStar e && kE T a false c e
    | _ => false)
  | .sub a i, t, c, x => (match x with
    | .Subscript e j _ => noSlice j && kE T a false c e && kE T i false c j
    | _ => false)
  | .slice a lo hi, t, c, x => (match x with
    | .Subscript e (.Slice l h none _) _ => kE T a false c e && kO T lo c l && kO T hi c h
    | _ => false)
  | .list as, t, c, x => (match x with
    | .List es _ => kAs T as c es
    | _ => false)
  | .tuple as, t, c, x => (match x with
    | .Tuple es _ _ => kAs T as c es
    | _ => false)
  | .comp el g it cd own, t, c, x => (match x with
    | .ListComp e [⟨tg, i, ifs, 0⟩] scope _ => kI T it c tg i && noSet i && blkC c.N c.sc scope (ownN c own) && (tgIx g).all (own.contains ·) && kG (blkCc c scope) g tg && kE T el false (blkCc c scope) e && (match cd, ifs with
      | .none, [] => true
      | .some q, [y] => kE T q true (blkCc c scope) y
      | _, _ => false)
    | _ => false)
  | .cel a, t, c, x => plainT x && kE T a false c x
def kAs (T : Tb) : Mi.Exs → Cc → List Expr → Bool
  | .nil, c, es => es.isEmpty
  | .cons a as, c, es => (match es with
    | e :: es => noStar e && kE T a false c e && kAs T as c es
    | [] => false)
def kKs (T : Tb) : Mi.Exs → Cc → List Keyword → Bool
  | .nil, c, es => es.isEmpty
  | .cons a as, c, es => (match es with
    | ⟨_, e, _⟩ :: es => kE T a false c e && kKs T as c es
    | [] => false)
def kO (T : Tb) : Mi.OEx → Cc → Option Expr → Bool
  | .none, c, o => o.isNone
  | .some a, c, o => (match o with
    | some e => kE T a false c e
    | none => false)
def kI (T : Tb) : Mi.It → Cc → Expr → Expr → Bool
  | .ex a, c, tg, x => kE T a false c x
  | .range a, c, tg, x => (match x with
    | .Call (.Name y _) [e] [] _ => decide (y = ("range" : Str)) && glC c y && noStar e && kE T a false c e
    | _ => false)
  | .range2 a b, c, tg, x => (match x with
    | .Call (.Name y _) [e, e'] [] _ => decide (y = ("range" : Str)) && glC c y && noStar e && noStar e' && kE T a false c e && kE T b false c e'
    | _ => false)
  | .enum a, c, tg, x => (match x with
    | .Call (.Name y _) [e] [] _ => decide (y = ("enumerate" : Str)) && glC c y && noStar e && isTup tg && kE T a false c e
    | _ => false)
  | .zip a b, c, tg, x => (match x with
    | .Call (.Name y _) [e, e'] [] _ => decide (y = ("zip" : Str)) && glC c y && noStar e && noStar e' && isTup tg && kE T a false c e && kE T b false c e'
    | _ => false)
  | .rev a, c, tg, x => (match x with
    | .Call (.Name y _) [e] [] _ => decide (y = ("reversed" : Str)) && glC c y && noStar e && kE T a false c e
    | _ => false)
end
end So
end S_Check

section S_Check2
set_option Elab.async false
set_option linter.all false
set_option maxRecDepth 100000
set_option maxHeartbeats 4000000
/-! Check2: what is checked holds: expressions. -/
namespace So
open PySem PySem.Spec PyProof.Rows L2
open Mi (W Ob Xn R Orc)
/-- what stands behind the names of the module, calls up to k deep -/
structure Gd (T : Tb) (O : Orc) (CA : Nat → Addr) (P : Program) (w : World) (K : PySem.W.Frag) (mg : Str → Option Value) (base : Heap) (k : Nat) : Prop where
  gl : ∀ x, T.gl x = true → ∃ (g : W) (v : V) (u : Value), O.glob x = some g ∧ mg x = some u ∧ RelV v u ∧ ∀ H m f, Rep K H m f g v
  df : ∀ x n, T.df x = some n → ∃ (fa : Addr) (fd : FuncData) (ps : List Str), mg x = some (.ref fa) ∧ PySem.W.keepIn K (.ref fa) = true ∧ FnOk P w K mg base (L2.CX P w) k fa fd ps (spF K CA (O.call n)) ∧ Binds K fd ps [] ∧
    ∀ ks pm, T.kw x ks pm = true → KPer K fd ps ks pm
  bl : ∀ x ∈ bltNs, mg x = none
/-- the checker's context is this one -/
structure Mt (T : Tb) (O : Orc) (CA : Nat → Addr) (k : Nat) (c : Cc) (X : Cx) : Prop where
  gd : Gd T O CA X.prog X.w X.K X.mg X.base k
  room : Room k X.A
  calm : X.calm = true
  nd : X.N.Nodup
  N : X.N = c.N
  sc : X.env.scope = c.sc
  fn : X.fn = c.fn
def Res (O : Orc) (CA : Nat → Addr) (t : Bool) (X : Cx) (x : Expr) (e : Mi.Ex) (Wx : WX) : Prop :=
  (t = false → PE X x (tE O X.K CA Wx e)) ∧ (t = true → PT X x (tTs O X.K CA Wx e) ∧ (isBo x = true → PW X x (tTs O X.K CA Wx e)))
section
variable {T : Tb} {O : Orc} {CA : Nat → Addr} {k : Nat} {c : Cc} {X : Cx} {x : Expr} {e : Mi.Ex} {Wx : WX} {t : Bool}
theorem Res.val (h : PE X x (tE O X.K CA Wx e)) (p : plainT x = true) : Res O CA t X x e Wx := ⟨fun _ => h, fun _ => ⟨tt_val h (plainT_ok p), fun b => by
  rw [plainT_bo p] at b
  cases b⟩⟩
theorem Mt.vis (M : Mt T O CA k c X) {y : Str} (h : visC c y = true) : Vis X.env.scope y := by
  unfold visC at h
  unfold Vis
  rw [M.sc]
  split at h
  · exact .inl (by assumption)
  · exact .inr (.inl (by assumption))
  · exact .inr (.inr (by assumption))
  · cases h
theorem Mt.glob (M : Mt T O CA k c X) {y : Str} (h : glC c y = true) : Gl X y := by
  unfold glC at h
  unfold Gl
  show X.env.scope.names.lookup y = _
  rw [M.sc]
  split at h
  · assumption
  · cases h
theorem Mt.slot (M : Mt T O CA k c X) {i : Nat} {y : Str} (h : slotC c i y = true) : X.N[i]? = some y := by
  rw [M.N]
  exact of_decide_eq_true h
theorem okN_ok {y : Str} (h : okN y = true) : (y == ("__debug__" : Str)) = false ∧ (y == ("__classdict__" : Str)) = false ∧ y ≠ "__name__" := by
  unfold okN at h
  simp only [Bool.and_eq_true, Bool.not_eq_true'] at h
  exact ⟨h.1.1, h.1.2, fun e => by
    have q := h.2
    rw [e] at q
    revert q
    decide⟩
theorem star_any {pos : Pos} {env : PySem.Env} : ∀ {es : List Expr}, (∀ e ∈ es, noStar e = true) → (backTo pos (starEach es env)).any (·.1) = false
  | [], _ => rfl
  | e :: es, h => by
    rw [star_cons (h e List.mem_cons_self)]
    show (false || (backTo pos (starEach es env)).any (·.1)) = false
    rw [Bool.false_or]
    exact star_any fun e' h' => h e' (List.mem_cons_of_mem _ h')
theorem kAs_star : ∀ {es : List Expr} {as : Mi.Exs}, kAs T as c es = true → ∀ e ∈ es, noStar e = true
  | [], _, _, _, h => nomatch h
  | e :: es, .nil, h, _, _ => by cases h
  | e :: es, .cons a as, h, e', he => by
    rw [kAs] at h
    simp only [Bool.and_eq_true] at h
    rcases List.mem_cons.mp he with z | z
    · rw [z]
      exact h.1.1
    · exact kAs_star h.2 e' z
theorem kw_all {pos : Pos} {env : PySem.Env} : ∀ {ks : List Keyword}, kwAll ks = true → (backToKw pos (keywordEach ks env)).all (·.1.isSome) = true ∧ (backToKw pos (keywordEach ks env)).filterMap (·.1) = kwNs ks ∧ (backToKw pos (keywordEach ks env)).any (·.1.isNone) = false
  | [], _ => ⟨rfl, rfl, rfl⟩
  | ⟨none, _, _⟩ :: ks, h => by cases h
  | ⟨some n, e, p⟩ :: ks, h => by
    obtain ⟨h1, h2, h3⟩ := kw_all (pos := pos) (env := env) (ks := ks) h
    refine ⟨?_, ?_, ?_⟩
    · show (true && (backToKw pos (keywordEach ks env)).all (·.1.isSome)) = true
      rw [h1]
      rfl
    · show n :: (backToKw pos (keywordEach ks env)).filterMap (·.1) = n :: kwNs ks
      rw [h2]
    · show (false || (backToKw pos (keywordEach ks env)).any (·.1.isNone)) = false
      rw [h3]
      rfl
theorem blt_each {b : Mi.Blt} {as : Mi.Exs} {e : Expr} {es : List Expr} {p pos : Pos} (hc : X.calm = true) (hb : isB b = true) (hg : Gl X (bltN b)) (hm : X.mg (bltN b) = none) (ha : PA X (e :: es) (tAs O X.K CA Wx as)) (hs : ∀ e' ∈ e :: es, noStar e' = true) :
    PE X (.Call (.Name (bltN b) p) (e :: es) [] pos) (tE O X.K CA Wx (.blt b as)) := by
  have he := star_cons (env := X.env) (es := es) (hs e List.mem_cons_self)
  have hpl : (backTo pos (starEach es X.env)).any (·.1) = false := star_any fun e' h' => hs e' (List.mem_cons_of_mem _ h')
  cases b with
  | len => exact te_bltB call_len2 (fun _ _ _ h => h) hg hm (by decide +kernel) ha (by decide) (by decide) he hpl
  | abs => exact te_bltB call_abs2 (fun _ _ _ h => h) hg hm (by decide +kernel) ha (by decide) (by decide) he hpl
  | int => exact te_bltT call_int2 hg hm (by decide +kernel) ha (by decide) (by decide) he hpl
  | max2 => exact te_bltB (call_max hc) (fun _ _ _ h => .inl h) hg hm (by decide +kernel) ha (by decide) (by decide) he hpl
  | max1 => exact te_bltB (call_max hc) (fun _ _ _ h => .inr h) hg hm (by decide +kernel) ha (by decide) (by decide) he hpl
  | min2 => exact te_bltB (call_min hc) (fun _ _ _ h => .inl h) hg hm (by decide +kernel) ha (by decide) (by decide) he hpl
  | min1 => exact te_bltB (call_min hc) (fun _ _ _ h => .inr h) hg hm (by decide +kernel) ha (by decide) (by decide) he hpl
  | sum => exact te_bltB (call_sum2 hc) (fun _ _ _ h => h) hg hm (by decide +kernel) ha (by decide) (by decide) he hpl
  | any => exact te_bltB (call_any2 hc) (fun _ _ _ h => h) hg hm (by decide +kernel) ha (by decide) (by decide) he hpl
  | all => exact te_bltB (call_all2 hc) (fun _ _ _ h => h) hg hm (by decide +kernel) ha (by decide) (by decide) he hpl
  | sorted => exact te_bltB call_sorted2 (fun _ _ _ h => h) hg hm (by decide +kernel) ha (by decide) (by decide) he hpl
  | list => exact te_bltT call_list2 hg hm (by decide +kernel) ha (by decide) (by decide) he hpl
  | tuple => exact te_bltT call_tuple2 hg hm (by decide +kernel) ha (by decide) (by decide) he hpl
  | lenSet => cases hb
  | sortSet => cases hb
theorem bltN_mem (b : Mi.Blt) : bltN b ∈ bltNs := by cases b <;> decide
theorem tyOf_mem (t : Mi.Ty) : (tyOf t : Str) ∈ bltNs := by cases t <;> decide
/-! ### stores -/
theorem sto_ok (M : Mt T O CA k c X) {i : Nat} {y : Str} (h : stoC c i y = true) : X.N[i]? = some y ∧ Loc X.env.scope y ∧ (X.fn y = true ∨ X.env.scope.names.lookup y = some .local) := by
  unfold stoC at h
  rw [Bool.and_eq_true] at h
  refine ⟨M.slot h.1, ?_⟩
  have h2 := h.2
  unfold L2.Loc
  rw [M.sc, M.fn]
  split at h2
  · rename_i e
    exact ⟨.inl e, .inr e⟩
  · rename_i e
    exact ⟨.inr e, .inl h2⟩
  · cases h2
theorem pg_nm (M : Mt T O CA k c X) {i : Nat} {y : Str} {p : Pos} (h : stoC c i y = true) : PG X (.Name y p) (gName i) := by
  obtain ⟨h1, h2, h3⟩ := sto_ok M h
  exact pg_name M.nd h1 h2 h3
theorem pgs_ok (M : Mt T O CA k c X) : ∀ {is : List Nat} {es : List Expr}, tgNs c is es = true → PGs X es (gNs is) ∧ (assignEach es X.env).length = is.length ∧ (assignEach es X.env).findIdx? (·.1) = none
  | [], [], _ => ⟨pgs_nil, rfl, rfl⟩
  | [], _ :: _, h => by cases h
  | i :: is, [], h => by cases h
  | i :: is, e :: es, h => by
    cases e <;> first | (cases h; done) | skip
    simp only [tgNs, Bool.and_eq_true] at h
    obtain ⟨q1, q2, q3⟩ := pgs_ok M h.2
    refine ⟨pgs_cons (pg_nm M h.1) q1 rfl, ?_, ?_⟩
    · show (assignEach es X.env).length + 1 = is.length + 1
      rw [q2]
    · show List.findIdx? (·.1) ((false, _) :: assignEach es X.env) = none
      rw [List.findIdx?_cons, q3]
      rfl
theorem kG_ok (M : Mt T O CA k c X) {g : Mi.Tg} {tg : Expr} (h : kG c g tg = true) : PG X tg (gM X.K g) := by
  cases g with
  | nm i =>
    cases tg <;> first | (cases h; done) | skip
    exact pg_nm M h
  | tp is =>
    cases tg <;> first | (cases h; done) | skip
    obtain ⟨q1, q2, q3⟩ := pgs_ok M (is := is) h
    exact pg_tup M.calm q1 q2 q3
/-- a comprehension's block -/
theorem Mt.blk (M : Mt T O CA k c X) (s : Shared) (H : Hp) (scope : Scope) (C : Addr) (cl : List (Str × Addr)) (fp : List Addr) : Mt T O CA k (blkCc c scope) (X.blk s H scope (compEnvC scope cl C X.env) fp) :=
  ⟨M.gd, M.room, M.calm, M.nd, M.N, by
    show PySem.Scope.mk _ _ _ _ _ = _
    unfold blkCc relS
    rw [← M.sc]
    rfl, rfl⟩
end
end So
end S_Check2

section S_Check3
set_option Elab.async false
set_option linter.all false
set_option maxRecDepth 100000
set_option maxHeartbeats 8000000
/-! Check3: what is checked holds: expressions. -/
namespace So
open PySem PySem.Spec PyProof.Rows L2
open Mi (W Ob Xn R Orc)
/-- the parts of a comprehension -/
structure CompOk (O : Orc) (CA : Nat → Addr) (Wx : WX) (X : Cx) (tg iter elt : Expr) (ifs : List Expr) (scope : Scope) (own : List (Str × Nat)) (it : Mi.It) (g : Mi.Tg) (cd : Mi.OEx) (el : Mi.Ex) : Prop where
  hi : PI X tg iter (tI O X.K CA Wx it)
  ok : BlkOk X.N X.env.scope scope own
  hw : ∀ i ∈ tgIx g, i ∈ own.map (·.2)
  hg : ∀ (s : Shared) (H : Hp) (C : Addr) (cl : List (Str × Addr)) (fp : List Addr), PG (X.blk s H scope (compEnvC scope cl C X.env) fp) tg (gM X.K g)
  ht : ∀ (s : Shared) (H : Hp) (C : Addr) (cl : List (Str × Addr)) (fp : List Addr), PTs (X.blk s H scope (compEnvC scope cl C X.env) fp) ifs (tC O X.K CA noW cd)
  he : ∀ (s : Shared) (H : Hp) (C : Addr) (cl : List (Str × Addr)) (fp : List Addr), PE (X.blk s H scope (compEnvC scope cl C X.env) fp) elt (tE O X.K CA noW el)
  hs : ∀ x, foldedSetIterable iter X.env x = pure x
section
variable {T : Tb} {O : Orc} {CA : Nat → Addr} {k : Nat}
mutual
theorem kE_ok : ∀ (e : Mi.Ex) (t : Bool) (c : Cc) (X : Cx) (x : Expr) (Wx : WX), Mt T O CA k c X → Takes X Wx → kE T e t c x = true → Res O CA t X x e Wx
  | .var i, t, c, X, x, Wx, M, tk, h => by
    unfold kE at h
    split at h
    · simp only [Bool.and_eq_true] at h
      obtain ⟨⟨h1, h2⟩, h3⟩ := h
      obtain ⟨g1, g2, g3⟩ := okN_ok h3
      exact .val (te_var (M.slot h1) (M.vis h2) g1 g2) rfl
    · cases h
  | .non, t, c, X, x, Wx, M, tk, h => by
    unfold kE at h
    split at h
    · exact .val te_non rfl
    · cases h
  | .bl b, t, c, X, x, Wx, M, tk, h => by
    unfold kE at h
    split at h
    · have e := eq_of_beq h
      subst e
      exact .val te_bl rfl
    · cases h
  | .int i, t, c, X, x, Wx, M, tk, h => by
    unfold kE at h
    split at h
    · have e := of_decide_eq_true h
      subst e
      exact .val te_int rfl
    · cases h
  | .str s, t, c, X, x, Wx, M, tk, h => by
    unfold kE at h
    split at h
    · have e := of_decide_eq_true h
      subst e
      exact .val te_str rfl
    · cases h
  | .glob y, t, c, X, x, Wx, M, tk, h => by
    unfold kE at h
    split at h
    · simp only [Bool.and_eq_true, decide_eq_true_eq] at h
      obtain ⟨⟨⟨h0, h1⟩, h2⟩, h3⟩ := h
      subst h0
      obtain ⟨g1, g2, g3⟩ := okN_ok h3
      obtain ⟨w, v, u, e1, e2, e3, e4⟩ := M.gd.gl _ h2
      exact .val (te_glob (M.glob h1) e2 e3 g1 e1 e4) rfl
    · cases h
  | .bin op a b, t, c, X, x, Wx, M, tk, h => by
    unfold kE at h
    split at h
    · simp only [Bool.and_eq_true] at h
      obtain ⟨⟨h0, h1⟩, h2⟩ := h
      have e := isOp_eq h0
      subst e
      exact .val (te_bin ((kE_ok a _ _ _ _ _ M tk h1).1 rfl) ((kE_ok b _ _ _ _ _ M tk h2).1 rfl)) rfl
    · cases h
  | .neg a, t, c, X, x, Wx, M, tk, h => by
    unfold kE at h
    split at h
    · exact .val (te_neg ((kE_ok a _ _ _ _ _ M tk h).1 rfl)) rfl
    · cases h
  | .not a, t, c, X, x, Wx, M, tk, h => by
    unfold kE at h
    split at h
    · refine ⟨fun e => ?_, fun e => ⟨?_, fun b => by cases b⟩⟩
      · exact te_not ((kE_ok a _ _ _ _ _ M tk h).1 e)
      · exact tt_not ((kE_ok a _ _ _ _ _ M tk h).2 e).1
    · cases h
  | .and a b, t, c, X, x, Wx, M, tk, h => by
    unfold kE at h
    split at h
    · rename_i pos
      simp only [Bool.and_eq_true] at h
      have qa := kE_ok a _ _ _ _ _ M tk h.1
      have qb := kE_ok b _ _ _ _ _ M tk h.2
      refine ⟨fun e => te_and (qa.1 e) (pe_one (qb.1 e)), fun e => ?_⟩
      have q := tw_and (pos := pos) (qa.2 e).1 (pw_and1 (qb.2 e).1)
      exact ⟨q.pt, fun _ => q⟩
    · simp only [Bool.and_eq_true] at h
      have qa := kE_ok a _ _ _ _ _ M tk h.1
      have qb := kE_ok b _ _ _ _ _ M tk h.2
      refine ⟨fun e => te_and (qa.1 e) (qb.1 e), fun e => ?_⟩
      have q := tw_and (qa.2 e).1 ((qb.2 e).2 rfl)
      exact ⟨q.pt, fun _ => q⟩
    · cases h
  | .or a b, t, c, X, x, Wx, M, tk, h => by
    unfold kE at h
    split at h
    · rename_i pos
      simp only [Bool.and_eq_true] at h
      have qa := kE_ok a _ _ _ _ _ M tk h.1
      have qb := kE_ok b _ _ _ _ _ M tk h.2
      refine ⟨fun e => te_or (qa.1 e) (pe_one (qb.1 e)), fun e => ?_⟩
      have q := tw_or (pos := pos) (qa.2 e).1 (pw_or1 (qb.2 e).1)
      exact ⟨q.pt, fun _ => q⟩
    · simp only [Bool.and_eq_true] at h
      have qa := kE_ok a _ _ _ _ _ M tk h.1
      have qb := kE_ok b _ _ _ _ _ M tk h.2
      refine ⟨fun e => te_or (qa.1 e) (qb.1 e), fun e => ?_⟩
      have q := tw_or (qa.2 e).1 ((qb.2 e).2 rfl)
      exact ⟨q.pt, fun _ => q⟩
    · cases h
  | .cmp op a b, t, c, X, x, Wx, M, tk, h => by
    unfold kE at h
    have hu : X.A.units + 64 < cLine := by
      have := M.room.un
      omega
    split at h
    · simp only [Bool.and_eq_true, Bool.not_eq_true'] at h
      obtain ⟨⟨⟨h0, hm⟩, h1⟩, h2⟩ := h
      have e := isCop_eq h0
      subst e
      have qa := (kE_ok a _ _ _ _ _ M tk h1).1 rfl
      have qb := (kE_ok b _ _ _ _ _ M tk h2).1 rfl
      exact ⟨fun _ => te_cmp hu qa qb hm, fun _ => ⟨tt_cmp hu qa qb hm, fun b => by cases b⟩⟩
    · cases h
  | .chain op op' a b d, t, c, X, x, Wx, M, tk, h => by
    unfold kE at h
    have hu : X.A.units + 64 < cLine := by
      have := M.room.un
      omega
    split at h
    · simp only [Bool.and_eq_true, Bool.not_eq_true'] at h
      obtain ⟨⟨⟨⟨⟨h0, h0'⟩, hm⟩, h1⟩, h2⟩, h3⟩ := h
      have e := isCop_eq h0
      have e' := isCop_eq h0'
      subst e e'
      have qa := (kE_ok a _ _ _ _ _ M tk h1).1 rfl
      have qb := (kE_ok b _ _ _ _ _ M tk h2).1 rfl
      have qd := (kE_ok d _ _ _ _ _ M tk h3).1 rfl
      exact ⟨fun _ => te_chain hu qa qb qd hm, fun _ => ⟨tt_chain hu qa qb qd hm, fun b => by cases b⟩⟩
    · cases h
  | .ifx q a b, t, c, X, x, Wx, M, tk, h => by
    unfold kE at h
    split at h
    · simp only [Bool.and_eq_true, Bool.not_eq_true'] at h
      obtain ⟨⟨⟨h0, h1⟩, h2⟩, h3⟩ := h
      subst h0
      exact ⟨fun _ => te_ifx ((kE_ok q _ _ _ _ _ M tk h1).2 rfl).1 ((kE_ok a _ _ _ _ _ M tk h2).1 rfl) ((kE_ok b _ _ _ _ _ M tk h3).1 rfl), fun e => by cases e⟩
    · cases h
  | .callP f as, t, c, X, x, Wx, M, tk, h => by
    unfold kE at h
    split at h
    · simp only [Bool.and_eq_true] at h
      obtain ⟨⟨⟨h0, h1⟩, h2⟩, h3⟩ := h
      obtain ⟨g1, g2, g3⟩ := okN_ok h2
      have hst := kAs_star h3
      unfold isDf at h0
      split at h0
      · rename_i n e
        have e0 := eq_of_beq h0
        subst e0
        obtain ⟨fa, fd, ps, q1, q2, q3, q4, _⟩ := M.gd.df _ _ e
        exact .val (te_callP tk q3 M.room (M.glob h1) q1 q2 q4 (kAs_ok as _ _ _ _ M tk h3) g1 (star_cons (hst _ List.mem_cons_self)) (star_any fun e' h' => hst e' (List.mem_cons_of_mem _ h'))) rfl
      · cases h0
    · cases h
  | .callH f as, t, c, X, x, Wx, M, tk, h => by
    unfold kE at h
    split at h
    · simp only [Bool.and_eq_true] at h
      obtain ⟨⟨⟨h0, h1⟩, h2⟩, h3⟩ := h
      obtain ⟨g1, g2, g3⟩ := okN_ok h2
      have hst := kAs_star h3
      unfold isDf at h0
      split at h0
      · rename_i n e
        have e0 := eq_of_beq h0
        subst e0
        obtain ⟨fa, fd, ps, q1, q2, q3, q4, _⟩ := M.gd.df _ _ e
        exact .val (te_callH tk q3 M.room (M.glob h1) q1 q2 q4 (kAs_ok as _ _ _ _ M tk h3) g1 (star_cons (hst _ List.mem_cons_self)) (star_any fun e' h' => hst e' (List.mem_cons_of_mem _ h'))) rfl
      · cases h0
    · cases h
  | .callPK f as pm, t, c, X, x, Wx, M, tk, h => by
    unfold kE at h
    split at h
    · simp only [Bool.and_eq_true] at h
      obtain ⟨⟨⟨⟨⟨h0, h1⟩, h2⟩, hk⟩, ha⟩, h3⟩ := h
      obtain ⟨g1, g2, g3⟩ := okN_ok h2
      unfold isDf at h0
      split at h0
      · rename_i n e
        have e0 := eq_of_beq h0
        subst e0
        obtain ⟨fa, fd, ps, q1, q2, q3, q4, q5⟩ := M.gd.df _ _ e
        refine .val (te_callPK tk q3 M.room (M.glob h1) q1 q2 (q5 _ _ hk) (kKs_ok as _ _ _ _ M tk h3) (kw_all ha).1 (kw_all ha).2.1 g1 ?_) rfl
        show (false || _) = false
        rw [Bool.false_or]
        exact (kw_all ha).2.2
      · cases h0
    · cases h
  | .blt b as, t, c, X, x, Wx, M, tk, h => by
    unfold kE at h
    split at h
    · simp only [Bool.and_eq_true, decide_eq_true_eq] at h
      obtain ⟨⟨⟨h0, h1⟩, h2⟩, h3⟩ := h
      subst h1
      exact .val (blt_each M.calm h0 (M.glob h2) (M.gd.bl _ (bltN_mem b)) (kAs_ok as _ _ _ _ M tk h3) (kAs_star h3)) rfl
    · cases h
  | .listI a b, t, c, X, x, Wx, M, tk, h => by
    unfold kE at h
    split at h
    · simp only [Bool.and_eq_true, decide_eq_true_eq] at h
      obtain ⟨⟨⟨⟨⟨⟨⟨h0, h1⟩, h2⟩, h3⟩, h4⟩, h5⟩, h6⟩, h7⟩ := h
      subst h0 h2
      exact .val (te_listI M.calm (M.glob h1) (M.gd.bl _ (by decide)) (M.glob h3) (M.gd.bl _ (by decide)) ((kE_ok a _ _ _ _ _ M tk h6).1 rfl) ((kE_ok b _ _ _ _ _ M tk h7).1 rfl) (star_cons h4) (star_cons h5)) rfl
    · cases h
  | .listJ a, t, c, X, x, Wx, M, tk, h => by
    unfold kE at h
    split at h
    · simp only [Bool.and_eq_true, decide_eq_true_eq] at h
      obtain ⟨⟨⟨⟨⟨h0, h1⟩, h2⟩, h3⟩, h4⟩, h6⟩ := h
      subst h0 h2
      exact .val (te_listJ M.calm (M.glob h1) (M.gd.bl _ (by decide)) (M.glob h3) (M.gd.bl _ (by decide)) ((kE_ok a _ _ _ _ _ M tk h6).1 rfl) (star_cons h4)) rfl
    · cases h
  | .listR a, t, c, X, x, Wx, M, tk, h => by
    unfold kE at h
    split at h
    · simp only [Bool.and_eq_true, decide_eq_true_eq] at h
      obtain ⟨⟨⟨⟨⟨h0, h1⟩, h2⟩, h3⟩, h4⟩, h6⟩ := h
      subst h0 h2
      exact .val (te_listR M.calm (M.glob h1) (M.gd.bl _ (by decide)) (M.glob h3) (M.gd.bl _ (by decide)) ((kE_ok a _ _ _ _ _ M tk h6).1 rfl) (star_cons h4)) rfl
    · cases h
  | .sortS a, t, c, X, x, Wx, M, tk, h => by
    unfold kE at h
    split at h
    · simp only [Bool.and_eq_true, decide_eq_true_eq] at h
      obtain ⟨⟨⟨⟨⟨h0, h1⟩, h2⟩, h3⟩, h4⟩, h6⟩ := h
      subst h0 h2
      exact .val (te_sortS M.calm (M.glob h1) (M.gd.bl _ (by decide)) (M.glob h3) (M.gd.bl _ (by decide)) ((kE_ok a _ _ _ _ _ M tk h6).1 rfl) (star_cons h4)) rfl
    · cases h
  | .meth m o as, t, c, X, x, Wx, M, tk, h => by
    unfold kE at h
    split at h
    · simp only [Bool.and_eq_true, decide_eq_true_eq] at h
      obtain ⟨⟨⟨⟨⟨h0, h1⟩, h2⟩, h3⟩, h4⟩, h5⟩ := h
      subst h0
      have qo := (kE_ok o _ _ _ _ _ M tk h3).1 rfl
      have qa := kAs_ok as _ _ _ _ M tk h4
      have hst := kAs_star h4
      split at h5
      · cases as with
        | nil => exact .val (te_pop qo (noCall_ok h1) h2) rfl
        | cons a as =>
          unfold kAs at h4
          cases h4
      · exact .val (te_popAt qo qa (noCall_ok h1) h2 (star_cons (hst _ List.mem_cons_self))) rfl
      · exact .val (te_append qo qa (noCall_ok h1) h2 (star_cons (hst _ List.mem_cons_self))) rfl
      · exact .val (te_extend qo qa (noCall_ok h1) h2 (star_cons (hst _ List.mem_cons_self))) rfl
      · cases h5
    · cases h
  | .isi a ty, t, c, X, x, Wx, M, tk, h => by
    unfold kE at h
    split at h
    · simp only [Bool.and_eq_true, decide_eq_true_eq] at h
      obtain ⟨⟨⟨⟨⟨h0, h1⟩, h2⟩, h3⟩, h4⟩, h5⟩ := h
      subst h0 h2
      exact .val (te_isi ((kE_ok a _ _ _ _ _ M tk h5).1 rfl) (M.glob h1) rfl (M.gd.bl _ (by decide)) (M.glob h3) (M.gd.bl _ (tyOf_mem ty)) (by cases ty <;> decide +kernel) (by cases ty <;> decide) (by cases ty <;> decide) (star_cons h4)) rfl
    · cases h
  | .sub a i, t, c, X, x, Wx, M, tk, h => by
    unfold kE at h
    split at h
    · simp only [Bool.and_eq_true] at h
      exact .val (te_sub ((kE_ok a _ _ _ _ _ M tk h.1.2).1 rfl) ((kE_ok i _ _ _ _ _ M tk h.2).1 rfl) (noSlice_ok h.1.1)) rfl
    · cases h
  | .slice a lo hi, t, c, X, x, Wx, M, tk, h => by
    unfold kE at h
    split at h
    · simp only [Bool.and_eq_true] at h
      exact .val (te_slice ((kE_ok a _ _ _ _ _ M tk h.1.1).1 rfl) (kO_ok lo _ _ _ _ M tk h.1.2) (kO_ok hi _ _ _ _ M tk h.2)) rfl
    · cases h
  | .list as, t, c, X, x, Wx, M, tk, h => by
    unfold kE at h
    split at h
    · exact .val (te_list (kAs_ok as _ _ _ _ M tk h)) rfl
    · cases h
  | .tuple as, t, c, X, x, Wx, M, tk, h => by
    unfold kE at h
    split at h
    · exact .val (te_tuple (kAs_ok as _ _ _ _ M tk h)) rfl
    · cases h
  | .comp el g it cd own, t, c, X, x, Wx, M, tk, h => by
    unfold kE at h
    split at h
    · rename_i e tg i ifs scope pos
      simp only [Bool.and_eq_true] at h
      obtain ⟨⟨⟨⟨⟨⟨h1, h2⟩, h3⟩, h4⟩, h5⟩, h6⟩, h7⟩ := h
      have q : CompOk O CA Wx X tg i e ifs scope (ownN c own) it g cd el := by
        refine ⟨kI_ok it _ _ _ _ _ M tk h1, ?_, fun j hj => ?_, fun s H C cl fp => kG_ok (M.blk s H scope C cl fp) h5, fun s H C cl fp => ?_, fun s H C cl fp => ?_, noSet_ok h2⟩
        · rw [M.N, M.sc]
          exact blkOk_by h3
        · rw [ownN_snd]
          exact List.contains_iff_mem.mp (List.all_eq_true.mp h4 j hj)
        · cases cd with
          | none =>
            cases ifs with
            | nil => exact tc_none
            | cons y ys => cases h7
          | some q =>
            cases ifs with
            | nil => cases h7
            | cons y ys =>
              cases ys with
              | nil => exact tc_some ((kE_ok q _ _ _ _ noW (M.blk s H scope C cl fp) takes0 h7).2 rfl).1
              | cons z zs => cases h7
        · exact (kE_ok el _ _ _ _ noW (M.blk s H scope C cl fp) takes0 h6).1 rfl
      have r := te_comp (pos := pos) M.calm M.nd q.hi q.ok q.hw q.hg q.ht q.he q.hs
      rw [ownN_snd] at r
      exact .val r rfl
    · cases h
  | .cel a, t, c, X, x, Wx, M, tk, h => by
    unfold kE at h
    simp only [Bool.and_eq_true] at h
    exact .val (te_cel ((kE_ok a _ _ _ _ _ M tk h.2).1 rfl)) h.1
theorem kAs_ok : ∀ (as : Mi.Exs) (c : Cc) (X : Cx) (es : List Expr) (Wx : WX), Mt T O CA k c X → Takes X Wx → kAs T as c es = true → PA X es (tAs O X.K CA Wx as)
  | .nil, c, X, es, Wx, M, tk, h => by
    cases es with
    | nil => exact ta_nil
    | cons e es => cases h
  | .cons a as, c, X, es, Wx, M, tk, h => by
    unfold kAs at h
    split at h
    · simp only [Bool.and_eq_true] at h
      exact ta_cons ((kE_ok a _ _ _ _ _ M tk h.1.2).1 rfl) (kAs_ok as _ _ _ _ M tk h.2) (star_cons h.1.1)
    · cases h
theorem kKs_ok : ∀ (as : Mi.Exs) (c : Cc) (X : Cx) (es : List Keyword) (Wx : WX), Mt T O CA k c X → Takes X Wx → kKs T as c es = true → PK X es (tAs O X.K CA Wx as)
  | .nil, c, X, es, Wx, M, tk, h => by
    cases es with
    | nil => exact tk_nil
    | cons e es => cases h
  | .cons a as, c, X, es, Wx, M, tk, h => by
    unfold kKs at h
    split at h
    · simp only [Bool.and_eq_true] at h
      exact tk_cons ((kE_ok a _ _ _ _ _ M tk h.1).1 rfl) (kKs_ok as _ _ _ _ M tk h.2)
    · cases h
theorem kO_ok : ∀ (a : Mi.OEx) (c : Cc) (X : Cx) (o : Option Expr) (Wx : WX), Mt T O CA k c X → Takes X Wx → kO T a c o = true → PO X o (tOs O X.K CA Wx a)
  | .none, c, X, o, Wx, M, tk, h => by
    cases o with
    | none => exact to_none
    | some e => cases h
  | .some a, c, X, o, Wx, M, tk, h => by
    unfold kO at h
    split at h
    · exact to_some ((kE_ok a _ _ _ _ _ M tk h).1 rfl)
    · cases h
theorem kI_ok : ∀ (it : Mi.It) (c : Cc) (X : Cx) (tg x : Expr) (Wx : WX), Mt T O CA k c X → Takes X Wx → kI T it c tg x = true → PI X tg x (tI O X.K CA Wx it)
  | .ex a, c, X, tg, x, Wx, M, tk, h => by
    unfold kI at h
    exact ti_ex ((kE_ok a _ _ _ _ _ M tk h).1 rfl)
  | .range a, c, X, tg, x, Wx, M, tk, h => by
    unfold kI at h
    split at h
    · simp only [Bool.and_eq_true, decide_eq_true_eq] at h
      obtain ⟨⟨⟨h0, h1⟩, h2⟩, h3⟩ := h
      subst h0
      exact ti_range (M.glob h1) (M.gd.bl _ (by decide)) ((kE_ok a _ _ _ _ _ M tk h3).1 rfl) (star_cons h2)
    · cases h
  | .range2 a b, c, X, tg, x, Wx, M, tk, h => by
    unfold kI at h
    split at h
    · simp only [Bool.and_eq_true, decide_eq_true_eq] at h
      obtain ⟨⟨⟨⟨⟨h0, h1⟩, h2⟩, h3⟩, h4⟩, h5⟩ := h
      subst h0
      exact ti_range2 (M.glob h1) (M.gd.bl _ (by decide)) ((kE_ok a _ _ _ _ _ M tk h4).1 rfl) ((kE_ok b _ _ _ _ _ M tk h5).1 rfl) (star_cons h2) (star_cons h3)
    · cases h
  | .enum a, c, X, tg, x, Wx, M, tk, h => by
    unfold kI at h
    split at h
    · simp only [Bool.and_eq_true, decide_eq_true_eq] at h
      obtain ⟨⟨⟨⟨h0, h1⟩, h2⟩, h3⟩, h4⟩ := h
      subst h0
      cases tg <;> first | (cases h3; done) | exact ti_enum (M.glob h1) (M.gd.bl _ (by decide)) ((kE_ok a _ _ _ _ _ M tk h4).1 rfl) (star_cons h2)
    · cases h
  | .zip a b, c, X, tg, x, Wx, M, tk, h => by
    unfold kI at h
    split at h
    · simp only [Bool.and_eq_true, decide_eq_true_eq] at h
      obtain ⟨⟨⟨⟨⟨⟨h0, h1⟩, h2⟩, h3⟩, h3'⟩, h4⟩, h5⟩ := h
      subst h0
      cases tg <;> first | (cases h3'; done) | exact ti_zip (M.glob h1) (M.gd.bl _ (by decide)) ((kE_ok a _ _ _ _ _ M tk h4).1 rfl) ((kE_ok b _ _ _ _ _ M tk h5).1 rfl) (star_cons h2) (star_cons h3)
    · cases h
  | .rev a, c, X, tg, x, Wx, M, tk, h => by
    unfold kI at h
    split at h
    · simp only [Bool.and_eq_true, decide_eq_true_eq] at h
      obtain ⟨⟨⟨h0, h1⟩, h2⟩, h3⟩ := h
      subst h0
      exact ti_rev (M.glob h1) (M.gd.bl _ (by decide)) ((kE_ok a _ _ _ _ _ M tk h3).1 rfl) (star_cons h2)
    · cases h
end
theorem comp_ok {el : Mi.Ex} {g : Mi.Tg} {it : Mi.It} {cd : Mi.OEx} {own : List Nat} {c : Cc} {X : Cx} {e tg i : Expr} {ifs : List Expr} {scope : Scope} {pos : Pos} {Wx : WX} {t : Bool} (M : Mt T O CA k c X) (tk : Takes X Wx) (h : kE T (.comp el g it cd own) t c (.ListComp e [⟨tg, i, ifs, 0⟩] scope pos) = true) :
    CompOk O CA Wx X tg i e ifs scope (ownN c own) it g cd el := by
  unfold kE at h
  simp only [Bool.and_eq_true] at h
  obtain ⟨⟨⟨⟨⟨⟨h1, h2⟩, h3⟩, h4⟩, h5⟩, h6⟩, h7⟩ := h
  refine ⟨kI_ok it _ _ _ _ _ M tk h1, ?_, fun j hj => ?_, fun s H C cl fp => kG_ok (M.blk s H scope C cl fp) h5, fun s H C cl fp => ?_, fun s H C cl fp => ?_, noSet_ok h2⟩
  · rw [M.N, M.sc]
    exact blkOk_by h3
  · rw [ownN_snd]
    exact List.contains_iff_mem.mp (List.all_eq_true.mp h4 j hj)
  · cases cd with
    | none =>
      cases ifs with
      | nil => exact tc_none
      | cons y ys => cases h7
    | some q =>
      cases ifs with
      | nil => cases h7
      | cons y ys =>
        cases ys with
        | nil => exact tc_some ((kE_ok q _ _ _ _ noW (M.blk s H scope C cl fp) takes0 h7).2 rfl).1
        | cons z zs => cases h7
  · exact (kE_ok el _ _ _ _ noW (M.blk s H scope C cl fp) takes0 h6).1 rfl
end
end So
end S_Check3

section S_Check4
set_option Elab.async false
set_option linter.all false
set_option maxRecDepth 100000
set_option maxHeartbeats 8000000
/-! Check4: what is checked holds: statements. -/
namespace So
open PySem PySem.Spec PyProof.Rows L2
open Mi (W Ob Xn R Orc)
def isFun (c : Cc) : Bool := match c.sc.kind with
  | .function => true
  | _ => false
/-- name = [..] on one line -/
def compSw (c : Cc) (y : Str) (py : Pos) (v : Expr) : Bool := match v with
  | .ListComp _ [⟨_, _, _, 0⟩] scope pos => isFun c && locC c y && (py.line == pos.line) && !(scope.names.any fun (n, k) => n == y && (k == .local || k == .cell))
  | _ => false
def isCompE : Mi.Ex → Bool
  | .comp .. => true
  | .cel (.comp ..) => true
  | _ => false
def parC (c : Cc) (x y : Str) (px py : Pos) (a b : Expr) : Bool := isFun c && locC c x && locC c y && decide (x ≠ y) && (py.line == px.line) && noStar a && noStar b && !([a, b].all (foldedForSure 8)) && !([a, b].all (constantsAlone 8))
mutual
def kS (T : Tb) (wr : List Nat) : Mi.S → Cc → Stmt → Bool
  | .set i e, c, st => (match st with
    | .Assign [.Name y py] v _ => stoC c i y && wr.contains i && kE T e false c v && (noComp v || (compSw c y py v && isCompE e))
    | _ => false)
  | .setC i e, c, st => (match st with
    | .Assign [.Name y py] v _ => stoC c i y && wr.contains i && kE T e false c v && noComp v
    | _ => false)
  | .setT g e, c, st => (match st with
    | .Assign [.Tuple es kk p] v _ => kG c g (.Tuple es kk p) && (tgIx g).all (wr.contains ·) && !isTup v && kE T e false c v
    | _ => false)
  | .par i j a b, c, st => (match st with
    | .Assign [.Tuple [.Name x px, .Name y py] _ _] (.Tuple [ea, eb] _ _) _ => slotC c i x && slotC c j y && decide (i ≠ j) && wr.contains i && wr.contains j && parC c x y px py ea eb && kE T a false c ea && kE T b false c eb
    | _ => false)
  | .setI o i e, c, st => (match st with
    | .Assign [.Subscript eo ei _] v _ => noSlice ei && kE T o false c eo && kE T i false c ei && kE T e false c v
    | _ => false)
  | .ex e, c, st => (match st with
    | .Expr v _ => noComp v && kE T e false c v
    | _ => false)
  | .ret e, c, st => (match st with
    | .Return (some v) _ => kE T e false c v
    | _ => false)
  | .retN, c, st => (match st with
    | .Return none _ => true
    | _ => false)
  | .ife q a b, c, st => (match st with
    | .If t u v _ => kE T q true c t && kSs T wr a c u && kSs T wr b c v
    | _ => false)
  | .for g it b, c, st => (match st with
    | .For tg iter body [] _ => kI T it c tg iter && noSet iter && kG c g tg && (tgIx g).all (wr.contains ·) && kSs T wr b c body
    | _ => false)
  | .while q b, c, st => (match st with
    | .While t body [] _ => kE T q true c t && kSs T wr b c body
    | _ => false)
  | .brk, c, st => (match st with
    | .Break _ => true
    | _ => false)
  | .cnt, c, st => (match st with
    | .Continue _ => true
    | _ => false)
  | .pass, c, st => (match st with
    | .Pass _ => true
    | _ => false)
  | .fail, c, st => true
def kSs (T : Tb) (wr : List Nat) : Mi.Ss → Cc → List Stmt → Bool
  | .nil, c, sts => sts.isEmpty
  | .cons s ss, c, sts => (match sts with
    | st :: sts => kS T wr s c st && kSs T wr ss c sts
    | [] => false)
end
theorem swaps_tup {es : List Expr} {kk : Nat} {p : Pos} {v : Expr} {n : Nat} {env : PySem.Env} : swapsWithSole [.Tuple es kk p] v n env = pure false := by
  cases v <;> rfl
theorem swaps_sub {a b : Expr} {p : Pos} {v : Expr} {n : Nat} {env : PySem.Env} : swapsWithSole [.Subscript a b p] v n env = pure false := by
  cases v <;> rfl
theorem sws_tup {es : List Expr} {kk : Nat} {p : Pos} {v : Expr} {env : PySem.Env} (h : isTup v = false) : swappedStores [.Tuple es kk p] v env = pure none := by
  cases v <;> first | rfl | cases h
theorem sws_sub {a b : Expr} {p : Pos} {v : Expr} {env : PySem.Env} : swappedStores [.Subscript a b p] v env = pure none := by
  cases v <;> rfl
theorem asg_sub {o i : Expr} {p : Pos} {env : PySem.Env} {v : Value} (h : noSlice i = true) : assign (.Subscript o i p) env v = (do
      let ov ← holding [v] (eval o env)
      let iv ← holding [v, ov] (eval i env)
      standAt p
      holding [v, ov, iv] (setItem ov iv v)
      release [v, ov, iv] []) := by
  cases i <;> first | rfl | cases h
section
variable {T : Tb} {O : Orc} {CA : Nat → Addr} {k : Nat} {c : Cc} {X : Cx}
theorem Mt.fun (M : Mt T O CA k c X) (h : isFun c = true) : X.env.scope.kind = .function := by
  rw [M.sc]
  unfold isFun at h
  split at h
  · assumption
  · cases h
theorem Mt.loc (M : Mt T O CA k c X) {y : Str} (h : locC c y = true) : X.env.scope.names.lookup y = some .local := by
  rw [M.sc]
  unfold locC at h
  split at h
  · assumption
  · cases h
theorem noStar_any {a b : Expr} (ha : noStar a = true) (hb : noStar b = true) : ([a, b].any fun | .Starred .. => true | _ => false) = false := by
  rw [List.any_eq_false]
  intro x hx
  have q : noStar x = true := by
    simp only [List.mem_cons, List.not_mem_nil, or_false] at hx
    rcases hx with e | e <;> (rw [e]; assumption)
  cases x <;> first | (intro z; cases z; done) | cases q
theorem par_sw (M : Mt T O CA k c X) {x y : Str} {px py pt pt2 : Pos} {kt k2 : Nat} {a b : Expr} (h : parC c x y px py a b = true) : swappedStores [.Tuple [.Name x px, .Name y py] kt pt] (.Tuple [a, b] k2 pt2) X.env = pure (some [x, y]) := by
  unfold parC at h
  simp only [Bool.and_eq_true, Bool.not_eq_true', decide_eq_true_eq] at h
  obtain ⟨⟨⟨⟨⟨⟨⟨⟨h1, h2⟩, h3⟩, h4⟩, h5⟩, h6⟩, h7⟩, h8⟩, h9⟩ := h
  have hb : X.env.blockKind = .function := by
    unfold Env.blockKind
    rw [M.fun h1]
    rfl
  have kx : X.env.kindOf x = some .local := M.loc h2
  have ky : X.env.kindOf y = some .local := M.loc h3
  have hn := noStar_any h6 h7
  have hxy : (x == y) = false := by
    rw [beq_eq_false_iff_ne]
    exact h4
  have hyx : (y == x) = false := by
    rw [beq_eq_false_iff_ne]
    exact fun e => h4 e.symm
  unfold swappedStores
  simp only [hb, kx, ky, hn, h8, h9, Expr.pos, h5, List.filterMap_cons, List.filterMap_nil, List.head?_cons, Option.map_some, Option.getD_some, List.length_cons, List.length_nil]
  simp [List.eraseDups_cons, h5, hyx, hxy, h4]
  intro z
  exfalso
  rcases z with z | z
  · cases a <;> first | (cases z; done) | cases h6
  · cases b <;> first | (cases z; done) | cases h7
theorem comp_sw (M : Mt T O CA k c X) {y : Str} {py spos : Pos} {v : Expr} {e : Mi.Ex} {i : Nat} {wr : List Nat} {Wx : WX} (tk : Takes X Wx) (hi : X.N[i]? = some y) (hw : i ∈ wr) (h : compSw c y py v = true) (he : isCompE e = true) (hk : kE T e false c v = true) : PS X (.Assign [.Name y py] v spos) (tS O X.K CA Wx wr (.set i e)) := by
  unfold compSw at h
  split at h
  · rename_i el g2 i2 ifs scope pos
    simp only [Bool.and_eq_true, Bool.not_eq_true'] at h
    obtain ⟨⟨⟨h1, h2⟩, h3⟩, h4⟩ := h
    have hs := sw_true (elt := el) (gs := [⟨g2, i2, ifs, 0⟩]) (l := spos.line) (M.fun h1) (M.loc h2) h3 h4
    have go : ∀ {el' : Mi.Ex} {g : Mi.Tg} {it : Mi.It} {cd : Mi.OEx} {own : List Nat}, kE T (.comp el' g it cd own) false c (.ListComp el [⟨g2, i2, ifs, 0⟩] scope pos) = true → PS X (.Assign [.Name y py] (.ListComp el [⟨g2, i2, ifs, 0⟩] scope pos) spos) (tAsg (tE O X.K CA Wx (.comp el' g it cd own)) (gName i)) := fun {el' g it cd own} hk => by
      have q := comp_ok M tk hk
      refine psImp (ps_setLc M.calm M.nd hi (M.loc h2) hs q.hi q.ok q.hg q.ht q.he q.hs) fun D σ H z => ?_
      rw [ownN_snd]
      have hw := q.hw
      rw [ownN_snd] at hw
      exact comp_val hw z
    unfold isCompE at he
    split at he
    · exact psImp (go hk) fun D σ H z => set_ok hw z
    · have hk' := hk
      unfold kE at hk'
      simp only [Bool.and_eq_true] at hk'
      exact psImp (go hk'.2) fun D σ H z => cel_val (set_ok hw z)
    · cases he
  · cases h
theorem all_mem {wr : List Nat} {is : List Nat} (h : is.all (wr.contains ·) = true) : ∀ i ∈ is, i ∈ wr := fun i hi => List.contains_iff_mem.mp (List.all_eq_true.mp h i hi)
mutual
theorem kS_ok {wr : List Nat} : ∀ (s : Mi.S) (c : Cc) (X : Cx) (st : Stmt) (Wx : WX), Mt T O CA k c X → Takes X Wx → PassesOwn (model X.prog X.w) X.A X.env X.xe → kS T wr s c st = true → PS X st (tS O X.K CA Wx wr s)
  | .set i e, c, X, st, Wx, M, tk, hp, h => by
    unfold kS at h
    split at h
    · simp only [Bool.and_eq_true, Bool.or_eq_true] at h
      obtain ⟨⟨⟨h1, h2⟩, h3⟩, h4⟩ := h
      obtain ⟨g1, g2, g3⟩ := sto_ok M h1
      rcases h4 with h4 | h4
      · exact psImp (ps_set M.nd g1 g2 ((kE_ok e _ _ _ _ _ M tk h3).1 rfl) (noComp_ok h4) g3) fun D σ H z => set_ok (List.contains_iff_mem.mp h2) z
      · exact comp_sw M tk g1 (List.contains_iff_mem.mp h2) h4.1 h4.2 h3
    · cases h
  | .setC i e, c, X, st, Wx, M, tk, hp, h => by
    unfold kS at h
    split at h
    · simp only [Bool.and_eq_true] at h
      obtain ⟨⟨⟨h1, h2⟩, h3⟩, h4⟩ := h
      obtain ⟨g1, g2, g3⟩ := sto_ok M h1
      exact psImp (ps_set M.nd g1 g2 ((kE_ok e _ _ _ _ _ M tk h3).1 rfl) (noComp_ok h4) g3) fun D σ H z => setC_ok (List.contains_iff_mem.mp h2) z
    · cases h
  | .setT g e, c, X, st, Wx, M, tk, hp, h => by
    unfold kS at h
    split at h
    · simp only [Bool.and_eq_true, Bool.not_eq_true'] at h
      obtain ⟨⟨⟨h1, h2⟩, h3⟩, h4⟩ := h
      exact psImp (ps_asg ((kE_ok e _ _ _ _ _ M tk h4).1 rfl) (kG_ok M h1) swaps_tup (sws_tup h3) rfl) fun D σ H z => setT_ok (all_mem h2) z
    · cases h
  | .par i j a b, c, X, st, Wx, M, tk, hp, h => by
    unfold kS at h
    split at h
    · simp only [Bool.and_eq_true, decide_eq_true_eq] at h
      obtain ⟨⟨⟨⟨⟨⟨⟨h1, h2⟩, h3⟩, h4⟩, h5⟩, h6⟩, h7⟩, h8⟩ := h
      have h6' := h6
      unfold parC at h6
      simp only [Bool.and_eq_true, Bool.not_eq_true', decide_eq_true_eq] at h6
      obtain ⟨⟨⟨⟨⟨⟨⟨⟨_, b2⟩, b3⟩, _⟩, _⟩, b6⟩, b7⟩, _⟩, _⟩ := h6
      refine psImp (ps_par M.calm M.nd (M.slot h1) (M.slot h2) h3 (M.loc b2) (M.loc b3) (pa_cons ((kE_ok a _ _ _ _ _ M tk h7).1 rfl) (pa_cons ((kE_ok b _ _ _ _ _ M tk h8).1 rfl) pa_nil (star_cons b7)) (star_cons b6)) (par_sw M h6') swaps_tup) fun D σ H z => ?_
      exact par_ok (List.contains_iff_mem.mp h4) (List.contains_iff_mem.mp h5) (fun σ H Q q => q) z
    · cases h
  | .setI o i e, c, X, st, Wx, M, tk, hp, h => by
    unfold kS at h
    split at h
    · simp only [Bool.and_eq_true] at h
      obtain ⟨⟨⟨h0, h1⟩, h2⟩, h3⟩ := h
      exact psImp (ps_asg ((kE_ok e _ _ _ _ _ M tk h3).1 rfl) (pg_sub ((kE_ok o _ _ _ _ _ M tk h1).1 rfl) ((kE_ok i _ _ _ _ _ M tk h2).1 rfl) set_idx (fun _ => asg_sub h0)) swaps_sub sws_sub rfl) fun D σ H z => setI_ok z
    · cases h
  | .ex e, c, X, st, Wx, M, tk, hp, h => by
    unfold kS at h
    split at h
    · simp only [Bool.and_eq_true] at h
      exact psImp (ps_expr ((kE_ok e _ _ _ _ _ M tk h.2).1 rfl) (noComp_ok h.1)) fun D σ H z => ex_ok z
    · cases h
  | .ret e, c, X, st, Wx, M, tk, hp, h => by
    unfold kS at h
    split at h
    · exact psImp (ps_ret ((kE_ok e _ _ _ _ _ M tk h).1 rfl)) fun D σ H z => ret_ok z
    · cases h
  | .retN, c, X, st, Wx, M, tk, hp, h => by
    unfold kS at h
    split at h
    · exact psImp ps_retN fun D σ H z => retN_ok z
    · cases h
  | .ife q a b, c, X, st, Wx, M, tk, hp, h => by
    unfold kS at h
    split at h
    · simp only [Bool.and_eq_true] at h
      exact psImp (ps_if ((kE_ok q _ _ _ _ _ M tk h.1.1).2 rfl).1 (kSs_ok a _ _ _ _ M tk hp h.1.2) (kSs_ok b _ _ _ _ M tk hp h.2)) fun D σ H z => if_ok z
    · cases h
  | .for g it b, c, X, st, Wx, M, tk, hp, h => by
    unfold kS at h
    split at h
    · simp only [Bool.and_eq_true] at h
      obtain ⟨⟨⟨⟨h1, h2⟩, h3⟩, h4⟩, h5⟩ := h
      exact psImp (ps_for hp M.calm (kI_ok it _ _ _ _ _ M tk h1) (kG_ok M h3) (kSs_ok b _ _ _ _ M tk hp h5) (noSet_ok h2)) fun D σ H z => for_ok (all_mem h4) z
    · cases h
  | .while q b, c, X, st, Wx, M, tk, hp, h => by
    unfold kS at h
    split at h
    · simp only [Bool.and_eq_true] at h
      exact psImp (ps_while hp ((kE_ok q _ _ _ _ _ M tk h.1).2 rfl).1 (kSs_ok b _ _ _ _ M tk hp h.2)) fun D σ H z => while_ok z
    · cases h
  | .brk, c, X, st, Wx, M, tk, hp, h => by
    unfold kS at h
    split at h
    · exact psImp ps_break fun D σ H z => brk_ok z
    · cases h
  | .cnt, c, X, st, Wx, M, tk, hp, h => by
    unfold kS at h
    split at h
    · exact psImp ps_continue fun D σ H z => cnt_ok z
    · cases h
  | .pass, c, X, st, Wx, M, tk, hp, h => by
    unfold kS at h
    split at h
    · exact psImp ps_pass fun D σ H z => pass_ok z
    · cases h
  | .fail, c, X, st, Wx, M, tk, hp, h => psImp ps_never fun D σ H z => fail_ok z
theorem kSs_ok {wr : List Nat} : ∀ (s : Mi.Ss) (c : Cc) (X : Cx) (st : List Stmt) (Wx : WX), Mt T O CA k c X → Takes X Wx → PassesOwn (model X.prog X.w) X.A X.env X.xe → kSs T wr s c st = true → PSs X st (tSs O X.K CA Wx wr s)
  | .nil, c, X, st, Wx, M, tk, hp, h => by
    cases st with
    | nil => exact pssImp pss_nil fun D σ H z => nil_ok z
    | cons e es => cases h
  | .cons s ss, c, X, st, Wx, M, tk, hp, h => by
    unfold kSs at h
    split at h
    · simp only [Bool.and_eq_true] at h
      exact pssImp (pss_cons (kS_ok s _ _ _ _ M tk hp h.1) (kSs_ok ss _ _ _ _ M tk hp h.2)) fun D σ H z => cons_ok z
    · cases h
end
end
end So
end S_Check4

section S_Defs
set_option Elab.async false
set_option linter.all false
set_option maxRecDepth 100000
set_option maxHeartbeats 8000000
/-! Defs: a def keeps its promise; the defs together. -/
namespace So
open PySem PySem.Spec PyProof.Rows L2
open Mi (W Ob Xn R Orc)
section
variable {K : PySem.W.Frag} {CA : Nat → Addr} {H : Hp} {m f : List Addr}
theorem envR_pad {ws : List W} {vs : List V} (r : Reps K H m f ws vs) (n : Nat) : EnvR K H m f (ws.map some ++ List.replicate n none) (vs.map some ++ List.replicate n none) := by
  have hl := r.length
  refine ⟨by simp [hl], fun i w h => ?_⟩
  by_cases hi : i < ws.length
  · rw [List.getElem?_append_left (by simpa using hi), List.getElem?_map] at h
    cases e : ws[i]? with
    | none =>
      rw [e] at h
      cases h
    | some u =>
      rw [e] at h
      cases h
      obtain ⟨v, h1, h2⟩ := r.get e
      exact ⟨v, by rw [List.getElem?_append_left (by simpa [← hl] using hi), List.getElem?_map, h1]; rfl, h2⟩
  · rw [List.getElem?_append_right (by simpa using hi), List.getElem?_replicate] at h
    split at h <;> cases h
theorem run_len {O : Orc} {d : Mi.Def} {ws : List W} {cs : List Ob} {z : Xn → List Ob → Prop} {q : W → List Ob → Prop} (h : Rw z (d.run O ws cs) q) : ws.length = d.pars := by
  unfold Mi.Def.run at h
  split at h
  · assumption
  · exact h.elim
end
/-- a def of the text: its name, its statement, its slots, its parameters, its tree -/
structure Dt where
  name : Str
  st : Stmt
  N : List Str
  ps : List Str
  d : Mi.Def
def Dt.cc (t : Dt) : Cc := ⟨t.N, defScope t.st, fun _ => true⟩
def Dt.ok (T : Tb) (t : Dt) : Bool := decide (t.d.slots = t.N.length) && decide (t.d.pars = t.ps.length) && kSs T (List.range t.N.length) t.d.body t.cc (defBody t.st)
/-- it stands at f -/
abbrev FunT (K : PySem.W.Frag) (t : Dt) (f : Addr) (fd : FuncData) : Prop := FunD K t.name t.name (defArgs t.st) (defBody t.st) (defScope t.st) [] [] f fd
section
variable {T : Tb} {O : Orc} {P : Program} {w : World} {K : PySem.W.Frag} {mg : Str → Option Value} {base : Heap} {CA : Nat → Addr} {k : Nat}
theorem def_ok {t : Dt} {f : Addr} {fd : FuncData} (F : FunT K t f fd) (S : FnScope t.N t.ps (defScope t.st)) (gd : Gd T O CA P w K mg base k) (ck : t.ok T = true) : FnOk P w K mg base (L2.CX P w) (k + 1) f fd t.ps (spF K CA fun ws cs => t.d.run O ws cs) := by
  unfold Dt.ok at ck
  simp only [Bool.and_eq_true, decide_eq_true_eq] at ck
  obtain ⟨⟨c1, c2⟩, c3⟩ := ck
  refine FunD.ok F S (fun vs H Q E h => ?_) (fun cdv A outer s H vs Q E hr h => ?_)
  · obtain ⟨ws, cs, m, f, rs, c, h⟩ := h
    rw [← rs.length, ← c2]
    exact run_len h
  · refine ⟨tSs O K CA (fun cls d _ H => E cls d H) (List.range t.N.length) t.d.body, kSs_ok t.d.body t.cc _ (defBody t.st) _ ⟨gd, hr, rfl, S.nd, rfl, rfl, rfl⟩ (takes_of rfl rfl rfl rfl) (passes_of rfl) c3, ?_⟩
    obtain ⟨ws, cs, m, f, rs, c, h⟩ := h
    have hl : ws.length = t.d.pars := run_len h
    unfold Mi.Def.run at h
    simp only [if_pos hl] at h
    refine ⟨H, m, f, L2.start t.N vs, Mi.entry t.d ws, cs, m, Keep.refl, Agree.refl, ?_, c, ?_⟩
    · unfold Mi.entry L2.start
      rw [c1, rs.length]
      exact envR_pad rs _
    · refine h.bind.imp (fun x cs1 z cls d H' m' σ' k' c' xr _ => z cls d H' m' k' c' xr) fun fl cs1 z => ?_
      cases fl with
      | nx ρ => exact fun H' m' σ' k' _ _ c' => z .non H' m' k' (.old .non c')
      | ret w => exact z
      | bk ρ => exact False.elim z
      | ct ρ => exact False.elim z
/-- what the top has written -/
structure Wd (T : Tb) (defs : List Dt) (g : Str → Option W) (P : Program) (w : World) (K : PySem.W.Frag) (mg : Str → Option Value) : Prop where
  gl : ∀ x, T.gl x = true → ∃ (a : W) (v : V) (u : Value), g x = some a ∧ mg x = some u ∧ RelV v u ∧ ∀ H m f, Rep K H m f a v
  bl : ∀ x ∈ bltNs, mg x = none
  fn : ∀ x n, T.df x = some n → ∃ (t : Dt) (fa : Addr) (fd : FuncData), defs[n]? = some t ∧ t.name = x ∧ mg x = some (.ref fa) ∧ FunT K t fa fd ∧ Binds K fd t.ps [] ∧
    ∀ ks pm, T.kw x ks pm = true → KPer K fd t.ps ks pm
/-- the texts are the trees -/
structure Tx (T : Tb) (defs : List Dt) : Prop where
  sc : ∀ t ∈ defs, FnScope t.N t.ps (defScope t.st)
  ck : ∀ t ∈ defs, t.ok T = true
theorem fn_none {k : Nat} {fa : Addr} {fd : FuncData} {ps : List Str} {sp : Sp} (h : ∀ vs H Q E, ¬ sp vs H Q E) : FnOk P w K mg base (L2.CX P w) k fa fd ps sp := ⟨fun vs H Q E q => (h _ _ _ _ q).elim, fun A outer s H args us vs Q E _ _ _ _ q => (h _ _ _ _ q).elim⟩
theorem knot {defs : List Dt} {g : Str → Option W} (fuel : Nat) (wd : Wd T defs g P w K mg) (tx : Tx T defs) : ∀ k : Nat, Gd T ⟨Mi.calls (defs.map (·.d)) g fuel k, g, fuel⟩ CA P w K mg base k
  | 0 => by
    refine ⟨wd.gl, fun x n e => ?_, wd.bl⟩
    obtain ⟨t, fa, fd, h1, h2, h3, h4, h5, h6⟩ := wd.fn x n e
    exact ⟨fa, fd, t.ps, h3, h4.kp, fn_none fun vs H Q E q => by
      obtain ⟨ws, cs, m, f, rs, c, h⟩ := q
      exact h, h5, h6⟩
  | k + 1 => by
    have ih := knot fuel wd tx k
    refine ⟨wd.gl, fun x n e => ?_, wd.bl⟩
    obtain ⟨t, fa, fd, h1, h2, h3, h4, h5, h6⟩ := wd.fn x n e
    have hm : t ∈ defs := List.mem_of_getElem? h1
    have q := def_ok h4 (tx.sc t hm) ih (tx.ck t hm)
    have e2 : (fun ws cs => t.d.run ⟨Mi.calls (defs.map (·.d)) g fuel k, g, fuel⟩ ws cs) = Mi.calls (defs.map (·.d)) g fuel (k + 1) n := by
      funext ws cs
      rw [Mi.calls]
      rw [List.getElem?_map, h1]
      rfl
    rw [e2] at q
    exact ⟨fa, fd, t.ps, h3, h4.kp, q, h5, h6⟩
end
end So
end S_Defs

section S_Heads
set_option Elab.async false
set_option linter.all false
set_option maxRecDepth 100000
set_option maxHeartbeats 8000000
/-! Heads: what the top has written, from the head's facts; the end. -/
namespace So
open PySem PySem.Spec PyProof.Rows L2
open Mi (W Ob Xn R Orc)
def ddOf (t : Dt) : He.DefD := ⟨(t.name, none), t.name, t.name, defArgs t.st, defBody t.st, defScope t.st, [], []⟩
def faOf (defs : List Dt) (consts : List (Str × Int)) : List He.Fa := defs.map (fun t => He.Fa.glo t.name) ++ (bltNs.map He.Fa.free ++ consts.map fun c => He.Fa.int c.1 c.2)
def tbOf (defs : List Dt) (consts : List (Str × Int)) (kw : Str → List Str → List Nat → Bool) : Tb := ⟨fun x => (consts.lookup x).isSome, fun x => defs.findIdx? fun t => t.name == x, kw⟩
def gOf (consts : List (Str × Int)) (x : Str) : Option W := (consts.lookup x).map W.int
/-- how a def's arguments bind -/
def Bd (t : Dt) : Prop := ∀ (kV doc pm : Value) (an : Option Addr) (cdv ct : Value) (us : List Value), us.length = t.ps.length → bindArgs (PySem.W.fnOf t.name t.name (defArgs t.st) (defBody t.st) (defScope t.st) .none kV doc pm an cdv ct) ⟨us, []⟩ = pure (t.ps.zip us)
/-- .. by keywords -/
def BdK (t : Dt) (ks : List Str) (pm : List Nat) : Prop := ∀ (kV doc pmv : Value) (an : Option Addr) (cdv ct : Value) (ws : List Value), (Mi.permute ws pm).length = t.ps.length → bindArgs (PySem.W.fnOf t.name t.name (defArgs t.st) (defBody t.st) (defScope t.st) .none kV doc pmv an cdv ct) ⟨[], ks.zip ws⟩ = pure (t.ps.zip (Mi.permute ws pm))
theorem kper_of {K : PySem.W.Frag} {t : Dt} {f : Addr} {fd : FuncData} {ks : List Str} {pm : List Nat} (F : FunT K t f fd) (h : BdK t ks pm) : KPer K fd t.ps ks pm := by
  obtain ⟨oc, od, dV, kV, doc, pmv, an, cdv, ct, osl, rfl, lk, hcd, hD, hK⟩ := F.ex
  rcases hD with ⟨_, rfl⟩ | ⟨e, _⟩
  · exact fun s ws _ hl => .of_eq (h kV doc pmv an cdv ct ws hl)
  · exact absurd rfl e
theorem lookup_mem {α : Type} : ∀ {l : List (Str × α)} {x : Str} {v : α}, l.lookup x = some v → (x, v) ∈ l
  | (y, u) :: l, x, v, h => by
    rw [List.lookup_cons] at h
    cases e : x == y with
    | true =>
      rw [e] at h
      cases h
      rw [eq_of_beq e]
      exact List.mem_cons_self
    | false =>
      rw [e] at h
      exact List.mem_cons_of_mem _ (lookup_mem h)
theorem wd_of {defs : List Dt} {consts : List (Str × Int)} {kw : Str → List Str → List Nat → Bool} {P : Program} {w : World} {K : PySem.W.Frag} {h : Heap} {mg : Str → Option Value} (X : K.In h) (G : h.Ns mainGlobals mg) (c : He.SaysD (faOf defs consts) (defs.map ddOf) K)
    (bd : ∀ t ∈ defs, Bd t) (bk : ∀ t ∈ defs, ∀ ks pm, kw t.name ks pm = true → BdK t ks pm) : Wd (tbOf defs consts kw) defs (gOf consts) P w K mg := by
  refine ⟨fun x e => ?_, fun x hx => ?_, fun x n e => ?_⟩
  · obtain ⟨i, hi⟩ := Option.isSome_iff_exists.mp (show (consts.lookup x).isSome = true from e)
    obtain ⟨j, hj⟩ := List.getElem?_of_mem (lookup_mem hi)
    have hf : (faOf defs consts)[(defs.map (fun t => He.Fa.glo t.name)).length + ((bltNs.map He.Fa.free).length + j)]? = some (.int x i) := by
      unfold faOf
      rw [List.getElem?_append_right (Nat.le_add_right _ _), Nat.add_sub_cancel_left, List.getElem?_append_right (Nat.le_add_right _ _), Nat.add_sub_cancel_left, List.getElem?_map, hj]
      rfl
    obtain ⟨t, ht⟩ := He.int_ok X G (c.fact _ hf)
    exact ⟨.int i, .int i, .int i t, by unfold gOf; rw [hi]; rfl, ht, ⟨t, rfl⟩, fun H m f => .int i⟩
  · obtain ⟨j, hj⟩ := List.getElem?_of_mem hx
    have hl : j < (bltNs.map He.Fa.free).length := by
      rw [List.length_map]
      exact (List.getElem?_eq_some_iff.mp hj).1
    have hf : (faOf defs consts)[(defs.map (fun t => He.Fa.glo t.name)).length + j]? = some (.free x) := by
      unfold faOf
      rw [List.getElem?_append_right (Nat.le_add_right _ _), Nat.add_sub_cancel_left, List.getElem?_append_left hl, List.getElem?_map, hj]
      rfl
    exact He.free_ok X G (c.fact _ hf)
  · have e' : defs.findIdx? (fun t => t.name == x) = some n := e
    obtain ⟨hn, hp, _⟩ := List.findIdx?_eq_some_iff_getElem.mp e'
    have ht : defs[n]? = some defs[n] := List.getElem?_eq_getElem hn
    have hx : defs[n].name = x := eq_of_beq hp
    have hf : (faOf defs consts)[n]? = some (.glo defs[n].name) := by
      unfold faOf
      rw [List.getElem?_append_left (by rw [List.length_map]; exact hn), List.getElem?_map, ht]
      rfl
    have hd : (defs.map ddOf)[n]? = some (ddOf defs[n]) := by
      rw [List.getElem?_map, ht]
      rfl
    obtain ⟨fd, F⟩ := c.def_ n hd
    have F' : FunT K defs[n] (He.ga K defs[n].name) fd := F
    have hm : defs[n] ∈ defs := List.getElem_mem hn
    refine ⟨defs[n], He.ga K defs[n].name, fd, ht, hx, ?_, F', F'.bindsN (bd _ hm), fun ks pm hk => kper_of F' (bk _ hm ks pm (by rw [hx]; exact hk))⟩
    rw [← hx]
    exact He.glo_ok X G (c.fact n hf)
theorem sp_ok {K : PySem.W.Frag} {CA : Nat → Addr} {g : List W → List Ob → R W} {H : Hp} {a : Addr} {ns : List Int} (hS : SqL K H a (ns.map V.int)) (h : ∃ cs, g [.scr (ns.map W.int)] [] = .ok (.bl true) cs) : spF K CA g [.ref a] H (fun v _ => v = .bl true) E0 := by
  obtain ⟨cs, h⟩ := h
  have r : Rep K H [] [] (.scr (ns.map W.int)) (.ref a) := by
    rcases hS with hS | hS
    · exact .scr hS (by simp) (by simp) (Reps.ints _)
    · exact .kscr hS (Reps.ints _)
  refine ⟨[.scr (ns.map W.int)], [], [], [], .cons r .nil, ⟨rfl, .nil, fun a h => (nomatch h), fun a h => (nomatch h), fun n a o h => (by simp at h)⟩, ?_⟩
  rw [h]
  intro v H' m' k o
  cases o with
  | old r c =>
    cases r
    rfl
theorem fn_calm {P : Program} {w : World} {K : PySem.W.Frag} {mg : Str → Option Value} {base : Heap} {k : Nat} {f : Addr} {fd : FuncData} {ps : List Str} {sp : Sp} (F : FnOk P w K mg base (L2.CX P w) k f fd ps sp) : FnOk P w K mg base CX0 k f fd ps (fun vs H Q _ => sp vs H Q E0) := by
  refine ⟨fun vs H Q _ h => F.len vs H Q E0 h, fun A outer s H args us vs Q E hr he hb hv hs => codeAny_mono (F.run A outer s H args us vs Q E0 hr he hb hv hs) fun r s' h => ?_⟩
  cases r with
  | ok fl => cases fl <;> exact h
  | error e =>
    have h' : L2.CX P w outer H s E0 e s' := h
    obtain ⟨_, _, _, _, _, _, _, _, _, _, _, _, z⟩ := h'
    exact z
/-- the law: its promise, at the top's names -/
theorem law_F {P : Program} {w : World} {K : PySem.W.Frag} {h : Heap} {mg : Str → Option Value} {f : Addr} {defs : List Dt} {consts : List (Str × Int)} {kw : Str → List Str → List Nat → Bool} (X : K.In h) (G : h.Ns mainGlobals mg) (hfa : mg ("law" : Str) = some (.ref f)) (c : He.SaysD (faOf defs consts) (defs.map ddOf) K)
    (bd : ∀ t ∈ defs, Bd t) (bk : ∀ t ∈ defs, ∀ ks pm, kw t.name ks pm = true → BdK t ks pm) (tx : Tx (tbOf defs consts kw) defs) {n : Nat} {tl : Dt} (hn : (tbOf defs consts kw).df "law" = some n) (ht : defs[n]? = some tl) (hp : tl.ps = (["script"] : List Str)) {fuel k m : Nat}
    (hlaw : ∀ ns : List Int, ns.length ≤ m → ∃ cs, Mi.calls (defs.map (·.d)) (gOf consts) fuel (k + 1) n [.scr (ns.map W.int)] [] = .ok (.bl true) cs) :
    ∃ (fd : FuncData) (sp : Sp), (∀ (s : Shared) (v : Value), BindsTo s fd ⟨[v], []⟩ [("script", v)]) ∧ (∀ (H : Hp) (a : Addr) (ns : List Int), ns.length ≤ m → Only H → SqL K H a (ns.map V.int) → sp [.ref a] H (fun v _ => v = .bl true) fun _ _ _ => False) ∧
      ∀ base : Heap, K.In base → base.Ns mainGlobals mg → FnOk P w K mg base CX0 (k + 1) f fd ["script"] sp := by
  have wd := wd_of (P := P) (w := w) X G c bd bk
  obtain ⟨t, fa, fd, h1, h2, h3, h4, h5, h6⟩ := wd.fn _ _ hn
  rw [ht] at h1
  cases h1
  rw [h3] at hfa
  cases hfa
  have hm : tl ∈ defs := List.mem_of_getElem? ht
  refine ⟨fd, fun vs H Q _ => spF K (fun _ => 0) (fun ws cs => tl.d.run ⟨Mi.calls (defs.map (·.d)) (gOf consts) fuel k, gOf consts, fuel⟩ ws cs) vs H Q E0, fun s v => ?_, fun H a ns hl _ hS => sp_ok hS ?_, fun base _ _ => ?_⟩
  · have q := h4.bindsA (bd _ hm) s [v] (by rw [hp]; rfl)
    rw [hp] at q
    exact q
  · obtain ⟨cs, e⟩ := hlaw ns hl
    refine ⟨cs, ?_⟩
    rw [← e, Mi.calls, List.getElem?_map, ht]
    rfl
  · have q := fn_calm (def_ok (CA := fun _ => 0) h4 (tx.sc _ hm) (knot (P := P) (w := w) (base := base) fuel wd tx k) (tx.ck _ hm))
    rw [hp] at q
    exact q
/-- the scopes, by the checker -/
def scC (t : Dt) : Bool := (match (defScope t.st).kind with
  | .function => true
  | _ => false) && !(defScope t.st).isCoroutine && !(defScope t.st).isGenerator && decide t.N.Nodup && decide (t.N.take t.ps.length = t.ps) && (t.ps.all fun x => match (defScope t.st).names.lookup x with
  | some .local => true
  | some .cell => true
  | _ => false) && (defScope t.st).names.all fun y => match y.2 with
    | .free => false
    | _ => true
theorem sc_of {t : Dt} (h : scC t = true) : FnScope t.N t.ps (defScope t.st) := by
  unfold scC at h
  simp only [Bool.and_eq_true, Bool.not_eq_true', decide_eq_true_eq, List.all_eq_true] at h
  obtain ⟨⟨⟨⟨⟨⟨h1, h2⟩, h3⟩, h4⟩, h5⟩, h6⟩, h7⟩ := h
  refine ⟨?_, h2, h3, h4, h5, fun x hx => ?_, fun y hy e => ?_⟩
  · split at h1
    · assumption
    · cases h1
  · have q := h6 x hx
    split at q
    · exact .inl (by assumption)
    · exact .inr (by assumption)
    · cases q
  · have q := h7 y hy
    rw [e] at q
    cases q
theorem tx_of {T : Tb} {defs : List Dt} (h : (defs.all fun t => scC t && t.ok T) = true) : Tx T defs :=
  ⟨fun t ht => sc_of (Bool.and_eq_true_iff.mp (List.all_eq_true.mp h t ht)).1, fun t ht => (Bool.and_eq_true_iff.mp (List.all_eq_true.mp h t ht)).2⟩
end So
end S_Heads

section S_K80a
set_option Elab.async false
set_option linter.all false
set_option maxRecDepth 100000
set_option maxHeartbeats 8000000
/-! K80a: the defs as trees, and that they are the text's. -/
namespace K80
open PySem PySem.Spec PyProof.Rows L2 So
open Mi (W Ob Xn R Orc)
def top (i : Nat) : Stmt := PySem.Challenge.pw_everycopy_k80_whole_marks_are_values.main.body.getD i (.Pass ⟨0, 0, 0, 0⟩)
def b_is_from_to : Mi.Ss := (.cons (.ret (.and (.isi (.var 0) .int) (.and (.not (.isi (.var 0) .bool)) (.chain .le .le (.var 1) (.var 0) (.var 2))))) .nil)
def t_is_from_to : Dt := ⟨"is_from_to", top 5, ["value", "least", "most"], ["value", "least", "most"], ⟨3, 3, b_is_from_to⟩⟩
def b_check_prime : Mi.Ss := (.cons (.ife (.or (.not (.callP 0 (.cons (.var 0) (.cons (.glob "LEAST_PRIME") (.cons (.glob "MOST_PRIME") .nil))))) (.blt .any (.cons (.comp (.cmp .eq (.bin .mod (.var 0) (.var 1)) (.int 0)) (.nm 1) (.range2 (.int 2) (.var 0)) .none [1]) .nil))) (.cons .fail .nil) .nil) .nil)
def t_check_prime : Dt := ⟨"check_prime", top 9, ["p", "by"], ["p"], ⟨2, 1, b_check_prime⟩⟩
def b_trimmed : Mi.Ss := (.cons (.set 1 (.cel (.blt .list (.cons (.var 0) .nil)))) (.cons (.while (.and (.cmp .gt (.blt .len (.cons (.var 1) .nil)) (.int 0)) (.cmp .eq (.sub (.var 1) (.neg (.int 1))) (.int 0))) (.cons (.ex (.meth .pop (.var 1) .nil)) .nil)) (.cons (.ret (.blt .tuple (.cons (.var 1) .nil))) .nil)))
def t_trimmed : Dt := ⟨"trimmed", top 10, ["row", "found"], ["row"], ⟨2, 1, b_trimmed⟩⟩
def b_value_of : Mi.Ss := (.cons (.set 3 (.int 0)) (.cons (.for (.nm 4) (.rev (.var 1)) (.cons (.set 3 (.bin .mod (.bin .add (.bin .mul (.var 3) (.var 2)) (.var 4)) (.var 0))) .nil)) (.cons (.ret (.var 3)) .nil)))
def t_value_of : Dt := ⟨"value_of", top 11, ["p", "row", "x", "found", "factor"], ["p", "row", "x"], ⟨5, 3, b_value_of⟩⟩
def b_product_of : Mi.Ss := (.cons (.set 3 (.cel (.bin .mul (.list (.cons (.int 0) .nil)) (.bin .add (.blt .len (.cons (.var 1) .nil)) (.blt .len (.cons (.var 2) .nil)))))) (.cons (.for (.tp [4, 5]) (.enum (.var 1)) (.cons (.for (.tp [6, 7]) (.enum (.var 2)) (.cons (.setI (.var 3) (.bin .add (.var 4) (.var 6)) (.bin .mod (.bin .add (.sub (.var 3) (.bin .add (.var 4) (.var 6))) (.bin .mul (.var 5) (.var 7))) (.var 0))) .nil)) .nil)) (.cons (.ret (.callP 2 (.cons (.var 3) .nil))) .nil)))
def t_product_of : Dt := ⟨"product_of", top 12, ["p", "one", "other", "found", "i", "factor", "k", "by"], ["p", "one", "other"], ⟨8, 3, b_product_of⟩⟩
def b_polynomial_of : Mi.Ss := (.cons (.set 2 (.tuple (.cons (.int 1) .nil))) (.cons (.for (.nm 3) (.ex (.var 1)) (.cons (.set 2 (.callP 4 (.cons (.var 0) (.cons (.var 2) (.cons (.tuple (.cons (.bin .mod (.bin .sub (.var 0) (.var 3)) (.var 0)) (.cons (.int 1) .nil))) .nil))))) .nil)) (.cons (.ret (.var 2)) .nil)))
def t_polynomial_of : Dt := ⟨"polynomial_of", top 13, ["p", "lot", "found", "number"], ["p", "lot"], ⟨4, 2, b_polynomial_of⟩⟩
def b_zeros_of : Mi.Ss := (.cons (.ret (.blt .tuple (.cons (.comp (.var 2) (.nm 2) (.range (.var 0)) (.some (.cmp .eq (.callP 3 (.cons (.var 0) (.cons (.var 1) (.cons (.var 2) .nil)))) (.int 0))) [2]) .nil))) .nil)
def t_zeros_of : Dt := ⟨"zeros_of", top 14, ["p", "row", "x"], ["p", "row"], ⟨3, 2, b_zeros_of⟩⟩
def b_value_at : Mi.Ss := (.cons (.ex (.callP 1 (.cons (.var 0) .nil))) (.cons (.ret (.callP 3 (.cons (.var 0) (.cons (.blt .tuple (.cons (.var 1) .nil)) (.cons (.var 2) .nil))))) .nil))
def t_value_at : Dt := ⟨"value_at", top 15, ["p", "row", "x"], ["p", "row", "x"], ⟨3, 3, b_value_at⟩⟩
def b_times : Mi.Ss := (.cons (.ex (.callP 1 (.cons (.var 0) .nil))) (.cons (.ret (.callP 4 (.cons (.var 0) (.cons (.blt .tuple (.cons (.var 1) .nil)) (.cons (.blt .tuple (.cons (.var 2) .nil)) .nil))))) .nil))
def t_times : Dt := ⟨"times", top 16, ["p", "one", "other"], ["p", "one", "other"], ⟨3, 3, b_times⟩⟩
def b_with_roots : Mi.Ss := (.cons (.ex (.callP 1 (.cons (.var 0) .nil))) (.cons (.ret (.callP 5 (.cons (.var 0) (.cons (.var 1) .nil)))) .nil))
def t_with_roots : Dt := ⟨"with_roots", top 17, ["p", "lot"], ["p", "lot"], ⟨2, 2, b_with_roots⟩⟩
def b_roots_of : Mi.Ss := (.cons (.ex (.callP 1 (.cons (.var 0) .nil))) (.cons (.ret (.callP 6 (.cons (.var 0) (.cons (.blt .tuple (.cons (.var 1) .nil)) .nil)))) .nil))
def t_roots_of : Dt := ⟨"roots_of", top 18, ["p", "row"], ["p", "row"], ⟨2, 2, b_roots_of⟩⟩
def b_check_number : Mi.Ss := (.cons (.ife (.not (.callP 0 (.cons (.var 0) (.cons (.var 1) (.cons (.var 2) .nil))))) (.cons .fail .nil) .nil) .nil)
def t_check_number : Dt := ⟨"check_number", top 20, ["value", "least", "most"], ["value", "least", "most"], ⟨3, 3, b_check_number⟩⟩
def b_is_rising : Mi.Ss := (.cons (.ife (.not (.isi (.var 0) .tuple)) (.cons (.ret (.bl false)) .nil) .nil) (.cons (.set 2 (.int 0)) (.cons (.for (.nm 3) (.ex (.var 0)) (.cons (.ife (.not (.callP 0 (.cons (.var 3) (.cons (.var 2) (.cons (.var 1) .nil))))) (.cons (.ret (.bl false)) .nil) .nil) (.cons (.set 2 (.bin .add (.var 3) (.int 1))) .nil))) (.cons (.ret (.bl true)) .nil))))
def t_is_rising : Dt := ⟨"is_rising", top 21, ["value", "most", "least", "one"], ["value", "most"], ⟨4, 2, b_is_rising⟩⟩
def b_check_numbers : Mi.Ss := (.cons (.ife (.or (.not (.callP 12 (.cons (.var 1) (.cons (.bin .sub (.bin .sub (.var 0) (.glob "MOST_MARKS")) (.int 1)) .nil)))) (.cmp .gt (.blt .len (.cons (.var 1) .nil)) (.glob "MOST_NUMBERS"))) (.cons .fail .nil) .nil) .nil)
def t_check_numbers : Dt := ⟨"check_numbers", top 25, ["p", "lot"], ["p", "lot"], ⟨2, 2, b_check_numbers⟩⟩
def b_marks_of : Mi.Ss := (.cons (.set 3 (.callP 5 (.cons (.var 0) (.cons (.var 1) .nil)))) (.cons (.ret (.blt .tuple (.cons (.comp (.callP 3 (.cons (.var 0) (.cons (.var 3) (.cons (.bin .sub (.var 0) (.var 4)) .nil)))) (.nm 4) (.range2 (.int 1) (.bin .add (.var 2) (.int 1))) .none [4]) .nil))) .nil))
def t_marks_of : Dt := ⟨"marks_of", top 26, ["p", "lot", "many", "row", "j"], ["p", "lot", "many"], ⟨5, 3, b_marks_of⟩⟩
def b_marks : Mi.Ss := (.cons (.ex (.callP 1 (.cons (.var 0) .nil))) (.cons (.ex (.callP 13 (.cons (.var 0) (.cons (.var 1) .nil)))) (.cons (.ex (.callP 11 (.cons (.var 2) (.cons (.int 0) (.cons (.glob "MOST_MARKS") .nil))))) (.cons (.ret (.callP 14 (.cons (.var 0) (.cons (.var 1) (.cons (.var 2) .nil))))) .nil))))
def t_marks : Dt := ⟨"marks", top 27, ["p", "lot", "many"], ["p", "lot", "many"], ⟨3, 3, b_marks⟩⟩
def b_law_source : Mi.Ss := (.cons (.set 1 (.int 88172645463325252)) (.cons (.set 2 (.cel (.list .nil))) (.cons (.for (.nm 3) (.ex (.slice (.var 0) .none (.some (.int 63)))) (.cons (.set 1 (.bin .mod (.bin .add (.bin .add (.bin .mul (.var 1) (.var 1)) (.bin .mod (.blt .int (.cons (.var 3) .nil)) (.int 18446744073709551557))) (.int 7046029254386353131)) (.int 18446744073709551557))) (.cons (.ife (.cmp .ge (.var 3) (.bin .pow (.int 10) (.int 18))) (.cons (.ex (.meth .append (.var 2) (.cons (.var 3) .nil))) .nil) .nil) .nil))) (.cons (.ret (.list (.cons (.var 1) (.cons (.int 0) (.cons (.cel (.listR (.var 2))) .nil))))) .nil))))
def t_law_source : Dt := ⟨"_law_source", top 29, ["script", "state", "great", "cell"], ["script"], ⟨4, 1, b_law_source⟩⟩
def b_law_draw : Mi.Ss := (.cons (.set 2 (.cel (.sub (.var 0) (.int 2)))) (.cons (.ife (.and (.cmp .gt (.blt .len (.cons (.var 2) .nil)) (.int 0)) (.cmp .eq (.sub (.var 2) (.neg (.int 1))) (.int 0))) (.cons (.ex (.meth .pop (.var 2) .nil)) .nil) .nil) (.cons (.ife (.cmp .gt (.blt .len (.cons (.var 2) .nil)) (.int 0)) (.cons (.set 3 (.bin .mod (.blt .int (.cons (.sub (.var 2) (.neg (.int 1))) .nil)) (.var 1))) (.cons (.setI (.var 2) (.neg (.int 1)) (.bin .fdiv (.sub (.var 2) (.neg (.int 1))) (.var 1))) (.cons (.ret (.var 3)) .nil))) .nil) (.cons (.setI (.var 0) (.int 1) (.bin .add (.sub (.var 0) (.int 1)) (.int 1))) (.cons (.setI (.var 0) (.int 0) (.bin .mod (.bin .add (.bin .add (.bin .mul (.sub (.var 0) (.int 0)) (.sub (.var 0) (.int 0))) (.bin .mul (.sub (.var 0) (.int 1)) (.int 7046029254386353131))) (.int 1)) (.int 18446744073709551557))) (.cons (.ret (.bin .mod (.blt .int (.cons (.bin .fdiv (.sub (.var 0) (.int 0)) (.int 65536)) .nil)) (.var 1))) .nil))))))
def t_law_draw : Dt := ⟨"_law_draw", top 30, ["src", "limit", "cells", "told"], ["src", "limit"], ⟨4, 2, b_law_draw⟩⟩
def b_law_same : Mi.Ss := (.cons (.ife (.cmp .isN (.var 1) .non) (.cons (.ret (.cmp .isN (.var 0) .non)) .nil) .nil) (.cons (.ife (.isi (.var 1) .bool) (.cons (.ret (.and (.isi (.var 0) .bool) (.cmp .eq (.var 0) (.var 1)))) .nil) .nil) (.cons (.ife (.isi (.var 1) .int) (.cons (.ret (.and (.isi (.var 0) .int) (.and (.not (.isi (.var 0) .bool)) (.cmp .eq (.var 0) (.var 1))))) .nil) .nil) (.cons (.ife (.isi (.var 1) .str) (.cons (.ret (.and (.isi (.var 0) .str) (.cmp .eq (.var 0) (.var 1)))) .nil) .nil) (.cons (.ife (.or (.not (.isi (.var 0) .tuple)) (.cmp .ne (.blt .len (.cons (.var 0) .nil)) (.blt .len (.cons (.var 1) .nil)))) (.cons (.ret (.bl false)) .nil) .nil) (.cons (.ret (.blt .all (.cons (.comp (.callP 18 (.cons (.sub (.var 0) (.var 2)) (.cons (.sub (.var 1) (.var 2)) .nil))) (.nm 2) (.range (.blt .len (.cons (.var 1) .nil))) .none [2]) .nil))) .nil))))))
def t_law_same : Dt := ⟨"_law_same", top 31, ["told", "due", "k"], ["told", "due"], ⟨3, 2, b_law_same⟩⟩
def b_law_prime : Mi.Ss := (.cons (.for (.nm 1) (.range (.int 25)) (.cons (.ife (.cmp .eq (.blt .len (.cons (.comp (.var 2) (.nm 2) (.range2 (.int 2) (.blt .min2 (.cons (.int 32) (.cons (.var 0) .nil)))) (.some (.cmp .eq (.bin .mod (.blt .int (.cons (.var 0) .nil)) (.var 2)) (.int 0))) [2]) .nil)) (.int 0)) (.cons (.ret (.var 0)) .nil) .nil) (.cons (.set 0 (.bin .add (.var 0) (.int 1))) .nil))) (.cons (.ret (.int 997)) .nil))
def t_law_prime : Dt := ⟨"_law_prime", top 32, ["start", "k", "d"], ["start"], ⟨3, 1, b_law_prime⟩⟩
def b_law_taken : Mi.Ss := (.cons (.set 3 (.cel (.list .nil))) (.cons (.for (.nm 4) (.range (.var 2)) (.cons (.ex (.meth .append (.var 3) (.cons (.meth .popAt (.var 1) (.cons (.callH 17 (.cons (.var 0) (.cons (.blt .len (.cons (.var 1) .nil)) .nil))) .nil)) .nil))) .nil)) (.cons (.ret (.var 3)) .nil)))
def t_law_taken : Dt := ⟨"_law_taken", top 33, ["src", "rest", "count", "told", "k"], ["src", "rest", "count"], ⟨5, 3, b_law_taken⟩⟩
def b_law_marks : Mi.Ss := (.cons (.set 3 (.cel (.list .nil))) (.cons (.for (.nm 4) (.range (.var 2)) (.cons (.set 5 (.int 1)) (.cons (.for (.nm 6) (.ex (.var 1)) (.cons (.set 5 (.bin .mod (.bin .mul (.var 5) (.bin .sub (.bin .sub (.bin .sub (.var 0) (.int 1)) (.var 4)) (.var 6))) (.var 0))) .nil)) (.cons (.ex (.meth .append (.var 3) (.cons (.var 5) .nil))) .nil)))) (.cons (.ret (.blt .tuple (.cons (.var 3) .nil))) .nil)))
def t_law_marks : Dt := ⟨"_law_marks", top 34, ["prime", "row", "top", "told", "k", "mark", "x"], ["prime", "row", "top"], ⟨7, 3, b_law_marks⟩⟩
def b_law_poly : Mi.Ss := (.cons (.set 2 (.list (.cons (.int 1) .nil))) (.cons (.for (.nm 3) (.ex (.var 1)) (.cons (.set 4 (.bin .add (.list (.cons (.int 0) .nil)) (.var 2))) (.cons (.set 5 (.bin .add (.var 2) (.list (.cons (.int 0) .nil)))) (.cons (.set 2 (.comp (.bin .mod (.bin .sub (.sub (.var 4) (.var 6)) (.bin .mul (.var 3) (.sub (.var 5) (.var 6)))) (.var 0)) (.nm 6) (.range (.blt .len (.cons (.var 4) .nil))) .none [6])) .nil)))) (.cons (.ret (.blt .tuple (.cons (.var 2) .nil))) .nil)))
def t_law_poly : Dt := ⟨"_law_poly", top 35, ["prime", "row", "told", "x", "up", "down", "k"], ["prime", "row"], ⟨7, 2, b_law_poly⟩⟩
def b_law_lot_right : Mi.Ss := (.cons (.set 3 (.callP 21 (.cons (.var 0) (.cons (.var 1) (.cons (.int 12) .nil))))) (.cons (.set 4 (.callP 22 (.cons (.var 0) (.cons (.var 1) .nil)))) (.cons (.ife (.or (.not (.callP 18 (.cons (.callP 15 (.cons (.var 0) (.cons (.var 1) (.cons (.var 2) .nil)))) (.cons (.slice (.var 3) .none (.some (.var 2))) .nil)))) (.not (.callP 18 (.cons (.callP 15 (.cons (.var 0) (.cons (.var 1) (.cons (.int 12) .nil)))) (.cons (.var 3) .nil))))) (.cons (.ret (.bl false)) .nil) .nil) (.cons (.set 5 (.callP 9 (.cons (.var 0) (.cons (.var 1) .nil)))) (.cons (.ife (.or (.not (.callP 18 (.cons (.var 5) (.cons (.var 4) .nil)))) (.cmp .isin (.int 0) (.var 3))) (.cons (.ret (.bl false)) .nil) .nil) (.cons (.for (.nm 6) (.range (.int 12)) (.cons (.ife (.not (.callP 18 (.cons (.callP 7 (.cons (.var 0) (.cons (.var 5) (.cons (.bin .sub (.bin .sub (.var 0) (.int 1)) (.var 6)) .nil)))) (.cons (.sub (.var 3) (.var 6)) .nil)))) (.cons (.ret (.bl false)) .nil) .nil) .nil)) (.cons (.ife (.cmp .gt (.bin .mul (.var 0) (.blt .len (.cons (.var 1) .nil))) (.int 4000)) (.cons (.ret (.bl true)) .nil) .nil) (.cons (.ret (.callP 18 (.cons (.callP 10 (.cons (.var 0) (.cons (.var 5) .nil))) (.cons (.var 1) .nil)))) .nil))))))))
def t_law_lot_right : Dt := ⟨"_law_lot_right", top 36, ["prime", "row", "top", "due", "poly", "told", "k"], ["prime", "row", "top"], ⟨7, 3, b_law_lot_right⟩⟩
def b_law : Mi.Ss := (.cons (.set 1 (.cel (.callH 16 (.cons (.var 0) .nil)))) (.cons (.set 2 (.list (.cons (.bin .add (.int 17) (.callH 17 (.cons (.var 1) (.cons (.int 15) .nil)))) (.cons (.bin .add (.int 29) (.callH 17 (.cons (.var 1) (.cons (.int 60) .nil)))) (.cons (.bin .add (.int 72) (.callH 17 (.cons (.var 1) (.cons (.int 30) .nil)))) (.cons (.bin .add (.int 17) (.callH 17 (.cons (.var 1) (.cons (.int 981) .nil)))) .nil)))))) (.cons (.set 3 (.callP 19 (.cons (.sub (.var 2) (.callH 17 (.cons (.var 1) (.cons (.int 4) .nil)))) .nil))) (.cons (.set 4 (.sub (.list (.cons (.int 0) (.cons (.int 1) (.cons (.int 12) (.cons (.callH 17 (.cons (.var 1) (.cons (.int 13) .nil))) .nil))))) (.callH 17 (.cons (.var 1) (.cons (.int 4) .nil))))) (.cons (.set 5 (.bin .sub (.var 3) (.int 12))) (.cons (.set 6 (.cel (.listJ (.var 5)))) (.cons (.set 7 (.list .nil)) (.cons (.ife (.cmp .eq (.callH 17 (.cons (.var 1) (.cons (.int 2) .nil))) (.int 1)) (.cons (.set 7 (.list (.cons (.meth .popAt (.var 6) (.cons (.int 0) .nil)) (.cons (.meth .pop (.var 6) .nil) .nil)))) .nil) .nil) (.cons (.set 8 (.list (.cons (.callH 17 (.cons (.var 1) (.cons (.sub (.list (.cons (.int 4) (.cons (.int 9) (.cons (.int 30) .nil)))) (.callH 17 (.cons (.var 1) (.cons (.int 3) .nil)))) .nil))) (.cons (.callH 17 (.cons (.var 1) (.cons (.sub (.list (.cons (.int 4) (.cons (.int 9) (.cons (.int 30) .nil)))) (.callH 17 (.cons (.var 1) (.cons (.int 3) .nil)))) .nil))) .nil)))) (.cons (.ife (.cmp .eq (.callH 17 (.cons (.var 1) (.cons (.int 6) .nil))) (.int 0)) (.cons (.set 8 (.list (.cons (.int 58) (.cons (.int 0) .nil)))) .nil) .nil) (.cons (.set 9 (.callH 20 (.cons (.var 1) (.cons (.var 6) (.cons (.blt .min2 (.cons (.sub (.var 8) (.int 0)) (.cons (.blt .len (.cons (.var 6) .nil)) .nil))) .nil))))) (.cons (.set 10 (.callH 20 (.cons (.var 1) (.cons (.var 6) (.cons (.blt .min2 (.cons (.sub (.var 8) (.int 1)) (.cons (.blt .len (.cons (.var 6) .nil)) .nil))) .nil))))) (.cons (.ife (.cmp .eq (.callH 17 (.cons (.var 1) (.cons (.int 2) .nil))) (.int 1)) (.cons (.set 9 (.bin .add (.var 9) (.var 7))) .nil) (.cons (.set 10 (.bin .add (.var 10) (.var 7))) .nil)) (.cons (.set 9 (.blt .tuple (.cons (.blt .sorted (.cons (.var 9) .nil)) .nil))) (.cons (.set 10 (.blt .tuple (.cons (.blt .sorted (.cons (.var 10) .nil)) .nil))) (.cons (.set 11 (.blt .tuple (.cons (.blt .sorted (.cons (.bin .add (.var 9) (.var 10)) .nil)) .nil))) (.cons (.ife (.cmp .gt (.blt .len (.cons (.var 11) .nil)) (.int 60)) (.cons (.set 11 (.var 9)) (.cons (.set 10 (.tuple .nil)) .nil)) .nil) (.cons (.for (.nm 12) (.ex (.list (.cons (.var 9) (.cons (.var 10) (.cons (.var 11) .nil))))) (.cons (.ife (.not (.callP 23 (.cons (.var 3) (.cons (.var 12) (.cons (.var 4) .nil))))) (.cons (.ret (.bl false)) .nil) .nil) .nil)) (.cons (.set 13 (.callP 8 (.cons (.var 3) (.cons (.callP 9 (.cons (.var 3) (.cons (.var 9) .nil))) (.cons (.callPK 9 (.cons (.var 10) (.cons (.var 3) .nil)) [1, 0]) .nil))))) (.cons (.ife (.not (.callP 18 (.cons (.var 13) (.cons (.callP 22 (.cons (.var 3) (.cons (.var 11) .nil))) .nil)))) (.cons (.ret (.bl false)) .nil) .nil) (.cons (.set 14 (.cel (.comp (.callH 17 (.cons (.var 1) (.cons (.var 3) .nil))) (.nm 17) (.range (.callH 17 (.cons (.var 1) (.cons (.int 4) .nil)))) .none [17]))) (.cons (.ife (.cmp .eq (.callH 17 (.cons (.var 1) (.cons (.int 2) .nil))) (.int 1)) (.cons (.ex (.meth .append (.var 14) (.cons (.bin .sub (.bin .sub (.var 3) (.int 1)) (.callH 17 (.cons (.var 1) (.cons (.int 12) .nil)))) .nil))) .nil) .nil) (.cons (.set 14 (.cel (.blt .tuple (.cons (.sortS (.var 14)) .nil)))) (.cons (.set 15 (.callP 22 (.cons (.var 3) (.cons (.var 14) .nil)))) (.cons (.set 16 (.callP 9 (.cons (.var 3) (.cons (.var 14) .nil)))) (.cons (.ife (.not (.callP 18 (.cons (.var 16) (.cons (.var 15) .nil)))) (.cons (.ret (.bl false)) .nil) .nil) (.cons (.for (.nm 17) (.ex (.var 14)) (.cons (.ife (.not (.callP 18 (.cons (.callP 7 (.cons (.var 3) (.cons (.var 16) (.cons (.var 17) .nil)))) (.cons (.int 0) .nil)))) (.cons (.ret (.bl false)) .nil) .nil) .nil)) (.cons (.ret (.or (.cmp .gt (.bin .mul (.var 3) (.blt .len (.cons (.var 14) .nil))) (.int 4000)) (.callP 18 (.cons (.callP 10 (.cons (.var 3) (.cons (.var 16) .nil))) (.cons (.var 14) .nil))))) .nil))))))))))))))))))))))))))))
def t_law : Dt := ⟨"law", top 37, ["script", "src", "start", "prime", "top", "room", "rest", "both", "counts", "first", "second", "whole", "row", "product", "third", "poly", "told", "k"], ["script"], ⟨18, 1, b_law⟩⟩
def defs : List Dt := [t_is_from_to, t_check_prime, t_trimmed, t_value_of, t_product_of, t_polynomial_of, t_zeros_of, t_value_at, t_times, t_with_roots, t_roots_of, t_check_number, t_is_rising, t_check_numbers, t_marks_of, t_marks, t_law_source, t_law_draw, t_law_same, t_law_prime, t_law_taken, t_law_marks, t_law_poly, t_law_lot_right, t_law]
def consts : List (Str × Int) := [("LEAST_PRIME", 17), ("MOST_PRIME", 997), ("MOST_MARKS", 12), ("MOST_NUMBERS", 60)]
theorem bd_is_from_to : Bd t_is_from_to := fun _ _ _ _ _ _ us hl => match us, hl with | [_, _, _], _ => rfl
theorem bd_check_prime : Bd t_check_prime := fun _ _ _ _ _ _ us hl => match us, hl with | [_], _ => rfl
theorem bd_trimmed : Bd t_trimmed := fun _ _ _ _ _ _ us hl => match us, hl with | [_], _ => rfl
theorem bd_value_of : Bd t_value_of := fun _ _ _ _ _ _ us hl => match us, hl with | [_, _, _], _ => rfl
theorem bd_product_of : Bd t_product_of := fun _ _ _ _ _ _ us hl => match us, hl with | [_, _, _], _ => rfl
theorem bd_polynomial_of : Bd t_polynomial_of := fun _ _ _ _ _ _ us hl => match us, hl with | [_, _], _ => rfl
theorem bd_zeros_of : Bd t_zeros_of := fun _ _ _ _ _ _ us hl => match us, hl with | [_, _], _ => rfl
theorem bd_value_at : Bd t_value_at := fun _ _ _ _ _ _ us hl => match us, hl with | [_, _, _], _ => rfl
theorem bd_times : Bd t_times := fun _ _ _ _ _ _ us hl => match us, hl with | [_, _, _], _ => rfl
theorem bd_with_roots : Bd t_with_roots := fun _ _ _ _ _ _ us hl => match us, hl with | [_, _], _ => rfl
theorem bd_roots_of : Bd t_roots_of := fun _ _ _ _ _ _ us hl => match us, hl with | [_, _], _ => rfl
theorem bd_check_number : Bd t_check_number := fun _ _ _ _ _ _ us hl => match us, hl with | [_, _, _], _ => rfl
theorem bd_is_rising : Bd t_is_rising := fun _ _ _ _ _ _ us hl => match us, hl with | [_, _], _ => rfl
theorem bd_check_numbers : Bd t_check_numbers := fun _ _ _ _ _ _ us hl => match us, hl with | [_, _], _ => rfl
theorem bd_marks_of : Bd t_marks_of := fun _ _ _ _ _ _ us hl => match us, hl with | [_, _, _], _ => rfl
theorem bd_marks : Bd t_marks := fun _ _ _ _ _ _ us hl => match us, hl with | [_, _, _], _ => rfl
theorem bd_law_source : Bd t_law_source := fun _ _ _ _ _ _ us hl => match us, hl with | [_], _ => rfl
theorem bd_law_draw : Bd t_law_draw := fun _ _ _ _ _ _ us hl => match us, hl with | [_, _], _ => rfl
theorem bd_law_same : Bd t_law_same := fun _ _ _ _ _ _ us hl => match us, hl with | [_, _], _ => rfl
theorem bd_law_prime : Bd t_law_prime := fun _ _ _ _ _ _ us hl => match us, hl with | [_], _ => rfl
theorem bd_law_taken : Bd t_law_taken := fun _ _ _ _ _ _ us hl => match us, hl with | [_, _, _], _ => rfl
theorem bd_law_marks : Bd t_law_marks := fun _ _ _ _ _ _ us hl => match us, hl with | [_, _, _], _ => rfl
theorem bd_law_poly : Bd t_law_poly := fun _ _ _ _ _ _ us hl => match us, hl with | [_, _], _ => rfl
theorem bd_law_lot_right : Bd t_law_lot_right := fun _ _ _ _ _ _ us hl => match us, hl with | [_, _, _], _ => rfl
theorem bd_law : Bd t_law := fun _ _ _ _ _ _ us hl => match us, hl with | [_], _ => rfl
theorem bd : ∀ t ∈ defs, Bd t := List.forall_mem_cons.mpr ⟨bd_is_from_to, List.forall_mem_cons.mpr ⟨bd_check_prime, List.forall_mem_cons.mpr ⟨bd_trimmed, List.forall_mem_cons.mpr ⟨bd_value_of, List.forall_mem_cons.mpr ⟨bd_product_of, List.forall_mem_cons.mpr ⟨bd_polynomial_of, List.forall_mem_cons.mpr ⟨bd_zeros_of, List.forall_mem_cons.mpr ⟨bd_value_at, List.forall_mem_cons.mpr ⟨bd_times, List.forall_mem_cons.mpr ⟨bd_with_roots, List.forall_mem_cons.mpr ⟨bd_roots_of, List.forall_mem_cons.mpr ⟨bd_check_number, List.forall_mem_cons.mpr ⟨bd_is_rising, List.forall_mem_cons.mpr ⟨bd_check_numbers, List.forall_mem_cons.mpr ⟨bd_marks_of, List.forall_mem_cons.mpr ⟨bd_marks, List.forall_mem_cons.mpr ⟨bd_law_source, List.forall_mem_cons.mpr ⟨bd_law_draw, List.forall_mem_cons.mpr ⟨bd_law_same, List.forall_mem_cons.mpr ⟨bd_law_prime, List.forall_mem_cons.mpr ⟨bd_law_taken, List.forall_mem_cons.mpr ⟨bd_law_marks, List.forall_mem_cons.mpr ⟨bd_law_poly, List.forall_mem_cons.mpr ⟨bd_law_lot_right, List.forall_mem_cons.mpr ⟨bd_law, fun _ h => nomatch h⟩⟩⟩⟩⟩⟩⟩⟩⟩⟩⟩⟩⟩⟩⟩⟩⟩⟩⟩⟩⟩⟩⟩⟩⟩
def loose : List PySem.Str := (["MoveError", "InvalidNumber", "InvalidLot", "is_from_to", "LEAST_PRIME", "MOST_PRIME", "check_prime", "trimmed", "value_of", "product_of", "polynomial_of", "zeros_of", "value_at", "times", "with_roots", "roots_of", "check_number", "is_rising", "MOST_MARKS", "MOST_NUMBERS", "check_numbers", "marks_of", "marks", "_law_source", "_law_draw", "_law_same", "_law_prime", "_law_taken", "_law_marks", "_law_poly", "_law_lot_right"] : List PySem.Str)
def lawAt : Nat := 37
def kw (x : Str) (ks : List Str) (pm : List Nat) : Bool := x == "with_roots" && ks == (["lot", "p"] : List Str) && pm == [1, 0]
theorem bk : ∀ t ∈ defs, ∀ ks pm, kw t.name ks pm = true → BdK t ks pm := by
  intro t ht ks pm h
  unfold kw at h
  simp only [Bool.and_eq_true, beq_iff_eq] at h
  obtain ⟨⟨h1, h2⟩, h3⟩ := h
  subst h2 h3
  have e : t = t_with_roots := by
    have q : ∀ t ∈ defs, t.name = ("with_roots" : Str) → t = t_with_roots := by
      simp only [defs, List.forall_mem_cons]
      repeat' apply And.intro
      all_goals first
        | exact fun _ => trivial
        | exact fun _ => rfl
        | exact fun h => absurd h (by decide)
        | exact fun _ h => nomatch h
    exact q t ht h1
  subst e
  exact fun _ _ _ _ _ _ ws hl => match ws, hl with
    | [_, _], _ => rfl
    | _ :: _ :: _ :: _, _ => rfl
theorem tx : Tx (tbOf defs consts kw) defs := tx_of (by decide +kernel)
end K80
end S_K80a

section S_K80h
set_option Elab.async false
set_option linter.all false
set_option maxRecDepth 100000
set_option maxHeartbeats 0
/-! K80h: the head of the law. -/
namespace K80
open PySem PySem.Spec PyProof.Rows L2 So
abbrev RR : PySem.W.OpenRow := PySem.W.OpenLaw.row PySem.Challenge.rw_everycopy_k80_whole_marks_are_values
def fa : List He.Fa := faOf defs consts
def fn : List He.DefD := defs.map ddOf
abbrev hk : PySem.W.Hook := He.hookD 4 fa fn
def ob (s : PySem.W.SharedT) : He.AlD := He.obsDG 4 fa fn (HandSHeadRun.getT s)
theorem ob_eq (s : PySem.W.SharedT) : ob s = hk.obs s.abs := He.obsDG_eq (HandSHeadRun.getT_eq s)
theorem hrun (w : World) : HandSHeadRun.RunEq RR (PySem.W.view RR.prog [lawAt]) hk ob 6000 loose w := by
  intro os
  kernel_rfl
theorem holds_of {fuel k : Nat} (hk : k + 1 ≤ 40) (hlaw : ∀ ns : List Int, ns.length ≤ 63 → ∃ cs, Mi.calls (defs.map (·.d)) (gOf consts) fuel (k + 1) 24 [.scr (ns.map Mi.W.int)] [] = .ok (.bl true) cs) : PySem.Challenge.rw_everycopy_k80_whole_marks_are_values.Holds := by
  w_on; o_law
  refine HandSHeadRun.head_any (r := RR) (q := PySem.W.view RR.prog [lawAt]) (H := K80.hk) (ob := ob) (M := 6000) (loose := loose) (d := HandSHeadRun.topDef RR.prog lawAt) (kwd := []) ob_eq
    (by kernel_rfl) (fun s => by kernel_rfl) hrun (by kernel_rfl) (by kernel_rfl) (by kernel_rfl) (by rfl) (by first | assumption | decide +kernel) (by decide +kernel) ⟨rfl, rfl, rfl, rfl, rfl, by decide +kernel⟩ ?hw ?hc
  case hw => w_witness2
  case hc =>
    refine L2.walk_ofE (l := PySem.Challenge.rw_everycopy_k80_whole_marks_are_values) (n := 63) (k := 40) (x := "script") (CX := L2.CX0) rfl (by decide) (by kernel_rfl) ⟨rfl, by decide, by decide⟩ ?F (fun _ _ _ _ z => z)
    intro w mg f h Y G hmg0
    obtain ⟨K, KX, c⟩ := Y
    have hmg : mg ("law" : PySem.Str) = some (.ref f) := by
      have e : (HandSHeadRun.topDef RR.prog lawAt).name = ("law" : PySem.Str) := by kernel_rfl
      rw [← e]
      exact hmg0
    obtain ⟨fd, sp, hb, hsp, hF⟩ := law_F (P := RR.prog) (w := w) KX G hmg c bd bk tx (n := 24) (tl := t_law) (by decide +kernel) rfl rfl hlaw
    exact ⟨K, fd, sp, KX, hb, hsp, fun base h1 h2 => (hF base h1 h2).mono hk⟩
end K80
end S_K80h

section S_EvLib
set_option Elab.async false
set_option linter.all false
/-! EvLib: reasoning about the evaluator. -/
namespace Ev
open Mi
abbrev ME := Mi.Env
/-- r ends well, with Q -/
structure Sat {α : Type} (r : R α) (Q : α → List Ob → Prop) : Prop where
  ex : ∃ a cs, r = .ok a cs ∧ Q a cs
@[simp] theorem sat_ok {α : Type} (a : α) (cs : List Ob) (Q : α → List Ob → Prop) : Sat (.ok a cs) Q = Q a cs := by
  refine propext ⟨fun h => ?_, fun h => ⟨⟨_, _, rfl, h⟩⟩⟩
  obtain ⟨a', cs', e, q⟩ := h.ex
  cases e
  exact q
@[simp] theorem sat_bad {α : Type} (Q : α → List Ob → Prop) : Sat (R.bad : R α) Q = False :=
  propext ⟨fun h => (by obtain ⟨_, _, e, _⟩ := h.ex; cases e), False.elim⟩
theorem Sat.ok {α : Type} {a : α} {cs : List Ob} {Q : α → List Ob → Prop} (q : Q a cs) : Sat (.ok a cs) Q := ⟨⟨_, _, rfl, q⟩⟩
@[simp] theorem bind_ok {α β : Type} (a : α) (cs : List Ob) (f : α → List Ob → R β) : (R.ok a cs).bind f = f a cs := by rw [R.bind]
@[simp] theorem noX_ok {α : Type} (a : α) (cs : List Ob) : (R.ok a cs).noX = .ok a cs := by rw [R.noX]
@[simp] theorem ofO_some {α : Type} (a : α) (cs : List Ob) : ofO (some a) cs = .ok a cs := by rw [ofO]
theorem sat_of {α : Type} {r : R α} {Q : α → List Ob → Prop} {a : α} {cs : List Ob} (h : r = .ok a cs) (q : Q a cs) : Sat r Q := ⟨⟨_, _, h, q⟩⟩
theorem Sat.mono {α : Type} {r : R α} {Q Q' : α → List Ob → Prop} (h : Sat r Q) (q : ∀ a cs, Q a cs → Q' a cs) : Sat r Q' := by
  obtain ⟨a, cs, e, z⟩ := h.ex
  exact ⟨⟨a, cs, e, q _ _ z⟩⟩
theorem Sat.bind {α β : Type} {r : R α} {f : α → List Ob → R β} {Q : α → List Ob → Prop} {Q' : β → List Ob → Prop} (h : Sat r Q)
    (q : ∀ a cs, Q a cs → Sat (f a cs) Q') : Sat (r.bind f) Q' := by
  obtain ⟨a, cs, e, z⟩ := h.ex
  subst e
  exact q _ _ z

/-! ### statements -/
variable {O : Orc}
theorem sat_nil {ρ : ME} {cs : List Ob} {Q : Fl → List Ob → Prop} (h : Q (.nx ρ) cs) : Sat (runs O .nil ρ cs) Q := by
  rw [runs, sat_ok]; exact h
theorem sat_cons {s : S} {ss : Ss} {ρ : ME} {cs : List Ob} {Q : Fl → List Ob → Prop}
    (h : Sat (run O s ρ cs) fun fl cs1 => match fl with
      | .nx ρ1 => Sat (runs O ss ρ1 cs1) Q
      | fl => Q fl cs1) : Sat (runs O (.cons s ss) ρ cs) Q := by
  rw [runs]
  refine h.bind fun fl cs1 z => ?_
  cases fl <;> first | exact z | exact .ok z
theorem sat_set {i : Nat} {e : Ex} {ρ : ME} {cs : List Ob} {Q : Fl → List Ob → Prop}
    (h : Sat (ev O ρ e cs) fun x cs1 => Q (.nx (ρ.set i (some (fz x)))) cs1) : Sat (run O (.set i e) ρ cs) Q := by
  rw [run]
  exact h.bind fun x cs1 z => .ok z
theorem sat_ex {e : Ex} {ρ : ME} {cs : List Ob} {Q : Fl → List Ob → Prop}
    (h : Sat (ev O ρ e cs) fun _ cs1 => Q (.nx ρ) cs1) : Sat (run O (.ex e) ρ cs) Q := by
  rw [run]
  exact h.bind fun x cs1 z => .ok z
theorem sat_ret {e : Ex} {ρ : ME} {cs : List Ob} {Q : Fl → List Ob → Prop}
    (h : Sat (ev O ρ e cs) fun x cs1 => Q (.ret x) cs1) : Sat (run O (.ret e) ρ cs) Q := by
  rw [run]
  exact h.bind fun x cs1 z => .ok z
theorem sat_if {c : Ex} {t e : Ss} {ρ : ME} {cs : List Ob} {Q : Fl → List Ob → Prop}
    (h : Sat (ev O ρ c cs) fun x cs1 => match x with
      | .bl true => Sat (runs O t ρ cs1) Q
      | .bl false => Sat (runs O e ρ cs1) Q
      | _ => False) : Sat (run O (.ife c t e) ρ cs) Q := by
  rw [run, test]
  obtain ⟨x, cs1, e1, z⟩ := h.ex
  rw [e1]
  cases x with
  | bl b => cases b <;> exact z
  | _ => exact z.elim
/-- step ahead by a first statement that goes on -/
theorem sat_go {s : S} {ss : Ss} {ρ : ME} {cs : List Ob} {Q : Fl → List Ob → Prop} (M : ME → List Ob → Prop)
    (h : Sat (run O s ρ cs) fun fl cs1 => ∃ ρ1, fl = .nx ρ1 ∧ M ρ1 cs1) (k : ∀ ρ1 cs1, M ρ1 cs1 → Sat (runs O ss ρ1 cs1) Q) : Sat (runs O (.cons s ss) ρ cs) Q := by
  refine sat_cons (h.mono fun fl cs1 z => ?_)
  obtain ⟨ρ1, e, m⟩ := z
  subst e
  exact k _ _ m

/-! ### loops -/
theorem sat_forGo {g : W → ME → List Ob → R Fl} {Q : Fl → List Ob → Prop} (I : List W → ME → List Ob → Prop)
    (h : ∀ x xs ρ cs, I (x :: xs) ρ cs → Sat (g x ρ cs) fun fl cs1 => match fl with
      | .nx ρ1 => I xs ρ1 cs1
      | .ct ρ1 => I xs ρ1 cs1
      | .bk ρ1 => Q (.nx ρ1) cs1
      | .ret w => Q (.ret w) cs1)
    (d : ∀ ρ cs, I [] ρ cs → Q (.nx ρ) cs) : ∀ (xs : List W) (ρ : ME) (cs : List Ob), I xs ρ cs → Sat (forGo g xs ρ cs) Q
  | [], ρ, cs, i => by rw [forGo, sat_ok]; exact d _ _ i
  | x :: xs, ρ, cs, i => by
      rw [forGo]
      refine (h x xs ρ cs i).bind fun fl cs1 z => ?_
      cases fl with
      | nx ρ1 => exact sat_forGo I h d xs ρ1 cs1 z
      | ct ρ1 => exact sat_forGo I h d xs ρ1 cs1 z
      | bk ρ1 => exact .ok z
      | ret w => exact .ok z
/-- over items that stand still -/
theorem sat_for {t : Tg} {it : It} {b : Ss} {ρ : ME} {cs : List Ob} {Q : Fl → List Ob → Prop} {xs : List W} (he : evI O ρ it cs = .ok (.im xs) cs) (I : List W → ME → List Ob → Prop)
    (i : I xs ρ cs)
    (h : ∀ x xs ρ cs, I (x :: xs) ρ cs → Sat (match put t (fz x) ρ with | some ρ' => runs O b ρ' cs | none => .bad) fun fl cs1 => match fl with
      | .nx ρ1 => I xs ρ1 cs1
      | .ct ρ1 => I xs ρ1 cs1
      | .bk ρ1 => Q (.nx ρ1) cs1
      | .ret w => Q (.ret w) cs1)
    (d : ∀ ρ cs, I [] ρ cs → Q (.nx ρ) cs) : Sat (run O (.for t it b) ρ cs) Q := by
  rw [run, he, bind_ok, forS]
  exact sat_forGo I h d xs ρ cs i
theorem sat_while {c : Ex} {b : Ss} {Q : Fl → List Ob → Prop} (I : Nat → ME → List Ob → Prop)
    (h : ∀ k ρ cs, I k ρ cs → Sat (ev O ρ c cs) fun x cs1 => match x with
      | .bl true => Sat (runs O b ρ cs1) fun fl cs2 => match fl with
        | .nx ρ1 => ∃ j, j < k ∧ I j ρ1 cs2
        | .ct ρ1 => ∃ j, j < k ∧ I j ρ1 cs2
        | .bk ρ1 => Q (.nx ρ1) cs2
        | .ret w => Q (.ret w) cs2
      | .bl false => Q (.nx ρ) cs1
      | _ => False) {ρ : ME} {cs : List Ob} {k : Nat} (i : I k ρ cs) (hk : k < O.fuel) : Sat (run O (.while c b) ρ cs) Q := by
  rw [run]
  generalize O.fuel = f at hk
  induction f generalizing k ρ cs with
  | zero => omega
  | succ f ih =>
      rw [whGo]
      obtain ⟨x, cs1, e, z⟩ := (h k ρ cs i).ex
      rw [test, e, bind_ok]
      cases x with
      | bl v =>
          cases v with
          | false => exact .ok z
          | true =>
              have z' : Sat (runs O b ρ cs1) fun fl cs2 => match fl with
                | .nx ρ1 => ∃ j, j < k ∧ I j ρ1 cs2
                | .ct ρ1 => ∃ j, j < k ∧ I j ρ1 cs2
                | .bk ρ1 => Q (.nx ρ1) cs2
                | .ret w => Q (.ret w) cs2 := z
              show Sat ((runs O b ρ cs1).bind _) Q
              refine z'.bind fun fl cs2 z2 => ?_
              cases fl with
              | nx ρ1 => obtain ⟨j, hj, i2⟩ := z2; exact ih i2 (by omega)
              | ct ρ1 => obtain ⟨j, hj, i2⟩ := z2; exact ih i2 (by omega)
              | bk ρ1 => exact .ok z2
              | ret w => exact .ok z2
      | _ => exact z.elim
/-- over a cell that stays as long as it is -/
theorem sat_forCe {g : W → ME → List Ob → R Fl} {n : Nat} {Q : Fl → List Ob → Prop} (I : Nat → Nat → ME → List Ob → Prop)
    (h : ∀ i k ρ cs, I i (k + 1) ρ cs → ∃ xs x, cellL cs n = some xs ∧ xs[i]? = some x ∧ Sat (g x ρ cs) fun fl cs1 => match fl with
      | .nx ρ1 => I (i + 1) k ρ1 cs1
      | .ct ρ1 => I (i + 1) k ρ1 cs1
      | .bk ρ1 => Q (.nx ρ1) cs1
      | .ret w => Q (.ret w) cs1)
    (d : ∀ i ρ cs, I i 0 ρ cs → (∃ xs, cellL cs n = some xs ∧ xs.length ≤ i) ∧ Q (.nx ρ) cs) : ∀ (k i : Nat) (ρ : ME) (cs : List Ob), I i k ρ cs → Sat (forCe g n i k ρ cs) Q
  | 0, i, ρ, cs, z => by
      obtain ⟨⟨xs, e, l⟩, q⟩ := d _ _ _ z
      rw [forCe, e]
      simp only [l, if_true]
      exact .ok q
  | k + 1, i, ρ, cs, z => by
      obtain ⟨xs, x, e, e2, q⟩ := h _ _ _ _ z
      rw [forCe, e]
      simp only [e2]
      refine q.bind fun fl cs1 z => ?_
      cases fl with
      | nx ρ1 => exact sat_forCe I h d k (i + 1) ρ1 cs1 z
      | ct ρ1 => exact sat_forCe I h d k (i + 1) ρ1 cs1 z
      | bk ρ1 => exact .ok z
      | ret w => exact .ok z

/-! ### comprehensions -/
theorem compGo_map {F : W → List Ob → R (Option W)} {f : W → Option W} {cs : List Ob} : ∀ {xs : List W}, (∀ x ∈ xs, F x cs = .ok (f x) cs) → compGo F xs cs = .ok (xs.filterMap f) cs
  | [], _ => rfl
  | x :: xs, h => by
      rw [compGo, h x (List.mem_cons_self ..), bind_ok, compGo_map fun y hy => h y (List.mem_cons_of_mem _ hy), bind_ok]
      cases e : f x <;> simp [List.filterMap_cons, e]
theorem sat_compGo {F : W → List Ob → R (Option W)} {Q : List W → List Ob → Prop} (I : List W → List W → List Ob → Prop)
    (h : ∀ x xs ys cs, I (x :: xs) ys cs → Sat (F x cs) fun o cs1 => I xs (ys ++ o.toList) cs1)
    : ∀ (xs ys : List W) (cs : List Ob), I xs ys cs → (∀ zs cs1, I [] (ys ++ zs) cs1 → Q zs cs1) → Sat (compGo F xs cs) Q
  | [], ys, cs, i, d => by rw [compGo, sat_ok]; exact d [] cs (by rw [List.append_nil]; exact i)
  | x :: xs, ys, cs, i, d => by
      rw [compGo]
      refine (h x xs ys cs i).bind fun o cs1 z => ?_
      refine (sat_compGo (Q := fun zs cs2 => Q (o.toList ++ zs) cs2) I h xs (ys ++ o.toList) cs1 z fun zs cs2 i2 => d _ _ (by rw [← List.append_assoc]; exact i2)).bind fun zs cs2 q => ?_
      cases o with
      | none => exact .ok q
      | some y => exact .ok q

/-! ### calls -/
theorem sat_def {d : Def} {ws : List W} {cs : List Ob} {Q : W → List Ob → Prop} (hl : ws.length = d.pars)
    (h : Sat (runs O d.body (entry d ws) cs) fun fl cs1 => match fl with
      | .nx _ => Q .non cs1
      | .ret w => Q w cs1
      | _ => False) : Sat (d.run O ws cs) Q := by
  rw [Def.run, if_pos hl]
  refine h.bind fun fl cs1 z => ?_
  cases fl with
  | nx ρ => exact .ok z
  | ret w => exact .ok z
  | bk ρ => exact z.elim
  | ct ρ => exact z.elim
theorem callP_eq {f : Nat} {ws vs : List W} {cs c1 : List Ob} {w v : W} (h1 : derefL (deref cs deep) ws = some vs) (h2 : O.call f vs [] = .ok w c1) (h3 : handed c1 w = some v) :
    callP O f ws cs = .ok v cs := by
  rw [callP, h1]
  simp only [h2, h3]
theorem sat_callP {f : Nat} {ws vs : List W} {cs : List Ob} {Q : W → List Ob → Prop} (h1 : derefL (deref cs deep) ws = some vs)
    (h : Sat (O.call f vs []) fun w c1 => ∃ v, handed c1 w = some v ∧ Q v cs) : Sat (callP O f ws cs) Q := by
  obtain ⟨w, c1, e, v, e2, q⟩ := h.ex
  rw [callP_eq h1 e e2]
  exact .ok q

/-! ### numbers -/
def nums (ns : List Int) : List W := ns.map W.int
abbrev tI (ns : List Int) : W := .tup (nums ns)
@[simp] theorem nums_len (ns : List Int) : (nums ns).length = ns.length := by simp [nums]
@[simp] theorem nums_nil : nums [] = [] := rfl
@[simp] theorem nums_cons (n : Int) (ns : List Int) : nums (n :: ns) = .int n :: nums ns := rfl
@[simp] theorem nums_app (as bs : List Int) : nums as ++ nums bs = nums (as ++ bs) := by simp [nums]
@[simp] theorem nums_get (ns : List Int) (i : Nat) : (nums ns)[i]? = ns[i]?.map W.int := by simp [nums]
@[simp] theorem nums_inj {as bs : List Int} : nums as = nums bs ↔ as = bs := by
  refine ⟨fun h => ?_, fun h => h ▸ rfl⟩
  exact (List.map_inj_right (fun x y e => by cases e; rfl)).mp h
theorem derefL_nums {d : W → Option W} (h : ∀ i, d (.int i) = some (.int i)) : ∀ (ns : List Int), derefL d (nums ns) = some (nums ns)
  | [] => rfl
  | n :: ns => by rw [nums_cons, derefL, h, derefL_nums h ns]
@[simp] theorem deref_int (cs : List Ob) (i : Int) : deref cs deep (.int i) = some (.int i) := rfl
@[simp] theorem deref_bl (cs : List Ob) (i : Bool) : deref cs deep (.bl i) = some (.bl i) := rfl
theorem deref_tI' (cs : List Ob) (k : Nat) (ns : List Int) : deref cs (k + 2) (.tup (nums ns)) = some (.tup (nums ns)) := by
  rw [deref]
  rw [derefL_nums (d := Mi.deref cs (k + 1)) fun _ => rfl]; rfl
@[simp] theorem deref_tI (cs : List Ob) (ns : List Int) : deref cs deep (.tup (nums ns)) = some (.tup (nums ns)) := deref_tI' cs 4 ns
@[simp] theorem deref_lst (cs : List Ob) (ns : List Int) : deref cs deep (.lst (nums ns)) = some (.lst (nums ns)) := by
  show deref cs (5 + 1) _ = _
  rw [deref]
  rw [derefL_nums (d := Mi.deref cs 5) fun _ => rfl]; rfl
@[simp] theorem deref_new (cs : List Ob) (ns : List Int) : deref cs deep (.new (nums ns)) = some (.lst (nums ns)) := by
  show deref cs (5 + 1) _ = _
  rw [deref]
  rw [derefL_nums (d := Mi.deref cs 5) fun _ => rfl]; rfl
theorem deref_cell {cs : List Ob} {n : Nat} {ns : List Int} (h : cellL cs n = some (nums ns)) : deref cs deep (.ref n) = some (.lst (nums ns)) := by
  show deref cs (5 + 1) _ = _
  rw [deref]
  simp only [h]
  rw [derefL_nums (d := Mi.deref cs 5) fun _ => rfl]; rfl
@[simp] theorem flat_nums (k : Nat) (ns : List Int) : (nums ns).all (flat (k + 1)) = true := by
  simp [nums, List.all_eq_true, flat]
@[simp] theorem flat_nums' (ns : List Int) : (nums ns).all (flat deep) = true := flat_nums 5 ns
@[simp] theorem handed_int (cs : List Ob) (i : Int) : handed cs (.int i) = some (.int i) := rfl
@[simp] theorem handed_bl (cs : List Ob) (i : Bool) : handed cs (.bl i) = some (.bl i) := rfl
@[simp] theorem handed_non (cs : List Ob) : handed cs .non = some .non := rfl
@[simp] theorem handed_tI (cs : List Ob) (ns : List Int) : handed cs (.tup (nums ns)) = some (.tup (nums ns)) := by
  simp only [handed]
  rw [if_pos]
  show (nums ns).all (flat 5) = true
  exact flat_nums 4 ns
@[simp] theorem handed_new (cs : List Ob) (ns : List Int) : handed cs (.new (nums ns)) = some (.new (nums ns)) := by
  simp [handed]
theorem handed_cell {cs : List Ob} {n : Nat} {ns : List Int} (h : cellL cs n = some (nums ns)) : handed cs (.ref n) = some (.new (nums ns)) := by
  simp [handed, h]
@[simp] theorem intsW_nums : ∀ (ns : List Int), intsW (nums ns) = some ns
  | [] => rfl
  | n :: ns => by rw [nums_cons, intsW, intsW_nums ns]; rfl
@[simp] theorem blsW_map : ∀ (bs : List Bool), blsW (bs.map W.bl) = some bs
  | [] => rfl
  | b :: bs => by rw [List.map_cons, blsW, blsW_map bs]; rfl
@[simp] theorem items_tup (cs : List Ob) (xs : List W) : items cs (.tup xs) = some xs := rfl
@[simp] theorem items_lst (cs : List Ob) (xs : List W) : items cs (.lst xs) = some xs := rfl
@[simp] theorem items_new (cs : List Ob) (xs : List W) : items cs (.new xs) = some xs := rfl
theorem range_nums (lo : Int) (n : Nat) : rangeI lo n = nums ((List.range n).map fun (i : Nat) => lo + (i : Int)) := by
  simp [rangeI, nums, Function.comp_def]
end Ev
end S_EvLib

section S_EvLib2
set_option Elab.async false
set_option linter.all false
/-! EvLib2: steps by simp. -/
namespace Ev
open Mi
variable {O : Orc}
@[simp] theorem ev_var {i : Nat} {ρ : ME} {cs : List Ob} : ev O ρ (.var i) cs = (match ρ[i]? with
  | some (some w) => .ok w cs
  | _ => .bad) := by rw [ev] <;> rfl
@[simp] theorem ev_non {ρ : ME} {cs : List Ob} : ev O ρ .non cs = .ok .non cs := by rw [ev]
@[simp] theorem ev_bl {b : Bool} {ρ : ME} {cs : List Ob} : ev O ρ (.bl b) cs = .ok (.bl b) cs := by rw [ev]
@[simp] theorem ev_int {i : Int} {ρ : ME} {cs : List Ob} : ev O ρ (.int i) cs = .ok (.int i) cs := by rw [ev]
@[simp] theorem ev_glob {x : PySem.Str} {ρ : ME} {cs : List Ob} : ev O ρ (.glob x) cs = ofO (O.glob x) cs := by rw [ev]
@[simp] theorem ev_bin {op : Bop} {a b : Ex} {ρ : ME} {cs : List Ob} : ev O ρ (.bin op a b) cs = (ev O ρ a cs).bind fun x cs => (ev O ρ b cs).bind fun y cs => bop op x y cs := by rw [ev]
@[simp] theorem ev_neg {a : Ex} {ρ : ME} {cs : List Ob} : ev O ρ (.neg a) cs = (ev O ρ a cs).bind fun x cs => (match x with
  | .int i => .ok (.int (-i)) cs
  | _ => .bad) := by rw [ev] <;> rfl
@[simp] theorem ev_not {a : Ex} {ρ : ME} {cs : List Ob} : ev O ρ (.not a) cs = (ev O ρ a cs).bind fun x cs => (match truth cs x with
  | some b => .ok (.bl (!b)) cs
  | none => .bad) := by rw [ev] <;> rfl
@[simp] theorem ev_and {a b : Ex} {ρ : ME} {cs : List Ob} : ev O ρ (.and a b) cs = (ev O ρ a cs).bind fun x cs => (match x with
  | .bl true => ev O ρ b cs
  | .bl false => .ok (.bl false) cs
  | _ => .bad) := by rw [ev] <;> rfl
@[simp] theorem ev_or {a b : Ex} {ρ : ME} {cs : List Ob} : ev O ρ (.or a b) cs = (ev O ρ a cs).bind fun x cs => (match x with
  | .bl true => .ok (.bl true) cs
  | .bl false => ev O ρ b cs
  | _ => .bad) := by rw [ev] <;> rfl
@[simp] theorem ev_cmp {op : Cop} {a b : Ex} {ρ : ME} {cs : List Ob} : ev O ρ (.cmp op a b) cs = (ev O ρ a cs).bind fun x cs => (ev O ρ b cs).bind fun y cs => (match cop op x y cs with
  | some k => .ok (.bl k) cs
  | none => .bad) := by rw [ev] <;> rfl
@[simp] theorem ev_chain {o1 o2 : Cop} {a b c : Ex} {ρ : ME} {cs : List Ob} : ev O ρ (.chain o1 o2 a b c) cs = (ev O ρ a cs).bind fun x cs => (ev O ρ b cs).bind fun y cs => (match cop o1 x y cs with
  | some true => (ev O ρ c cs).bind fun z cs => (match cop o2 y z cs with
    | some k => .ok (.bl k) cs
    | none => .bad)
  | some false => .ok (.bl false) cs
  | none => .bad) := by rw [ev] <;> rfl
@[simp] theorem ev_ifx {c a b : Ex} {ρ : ME} {cs : List Ob} : ev O ρ (.ifx c a b) cs = (ev O ρ c cs).bind fun x cs => (match truth cs x with
  | some true => ev O ρ a cs
  | some false => ev O ρ b cs
  | none => .bad) := by rw [ev] <;> rfl
@[simp] theorem ev_callP {f : Nat} {es : Exs} {ρ : ME} {cs : List Ob} : ev O ρ (.callP f es) cs = (evs O ρ es cs).bind fun ws cs => callP O f ws cs := by rw [ev]
@[simp] theorem ev_callPK {f : Nat} {es : Exs} {pm : List Nat} {ρ : ME} {cs : List Ob} : ev O ρ (.callPK f es pm) cs = (evs O ρ es cs).bind fun ws cs => callP O f (permute ws pm) cs := by rw [ev]
@[simp] theorem ev_callH {f : Nat} {es : Exs} {ρ : ME} {cs : List Ob} : ev O ρ (.callH f es) cs = (evs O ρ es cs).bind fun ws cs => O.call f ws cs := by rw [ev]
@[simp] theorem ev_blt {b : Blt} {es : Exs} {ρ : ME} {cs : List Ob} : ev O ρ (.blt b es) cs = (evs O ρ es cs).bind fun ws cs => blt b ws cs := by rw [ev]
@[simp] theorem ev_listI {a b : Ex} {ρ : ME} {cs : List Ob} : ev O ρ (.listI a b) cs = (ev O ρ a cs).bind fun x cs => (ev O ρ b cs).bind fun y cs => (match rangeW x y with
  | some xs => .ok (.new xs) cs
  | none => .bad) := by rw [ev] <;> rfl
@[simp] theorem ev_listJ {a : Ex} {ρ : ME} {cs : List Ob} : ev O ρ (.listJ a) cs = (ev O ρ a cs).bind fun x cs => (match rangeW (.int 0) x with
  | some xs => .ok (.new xs) cs
  | none => .bad) := by rw [ev] <;> rfl
@[simp] theorem ev_listR {a : Ex} {ρ : ME} {cs : List Ob} : ev O ρ (.listR a) cs = (ev O ρ a cs).bind fun x cs => (match itemsL cs x with
  | some xs => .ok (.new xs.reverse) cs
  | none => .bad) := by rw [ev] <;> rfl
@[simp] theorem ev_sortS {a : Ex} {ρ : ME} {cs : List Ob} : ev O ρ (.sortS a) cs = (ev O ρ a cs).bind fun x cs => (match (itemsL cs x).bind intsW with
  | some ns => if ns.length < 64 then .ok (.new ((sortI (onceI ns)).map .int)) cs else .bad
  | none => .bad) := by rw [ev] <;> rfl
@[simp] theorem ev_meth {m : Mth} {o : Ex} {es : Exs} {ρ : ME} {cs : List Ob} : ev O ρ (.meth m o es) cs = (ev O ρ o cs).bind fun x cs => if isCell cs x then (evs O ρ es cs).bind fun ws cs => meth m x ws cs else .bad := by rw [ev]
@[simp] theorem ev_isi {a : Ex} {t : Ty} {ρ : ME} {cs : List Ob} : ev O ρ (.isi a t) cs = (ev O ρ a cs).bind fun x cs => (match isiW t x cs with
  | some k => .ok (.bl k) cs
  | none => .bad) := by rw [ev] <;> rfl
@[simp] theorem ev_sub {a i : Ex} {ρ : ME} {cs : List Ob} : ev O ρ (.sub a i) cs = (ev O ρ a cs).bind fun x cs => (ev O ρ i cs).bind fun y cs => ofO (subW x y cs) cs := by rw [ev]
@[simp] theorem ev_slice {a : Ex} {lo hi : OEx} {ρ : ME} {cs : List Ob} : ev O ρ (.slice a lo hi) cs = (ev O ρ a cs).bind fun x cs => (evO O ρ lo cs).bind fun l cs => (evO O ρ hi cs).bind fun h cs => sliceW x l h cs := by rw [ev]
@[simp] theorem ev_list {es : Exs} {ρ : ME} {cs : List Ob} : ev O ρ (.list es) cs = (evs O ρ es cs).bind fun ws cs => mkNew ws cs := by rw [ev]
@[simp] theorem ev_tuple {es : Exs} {ρ : ME} {cs : List Ob} : ev O ρ (.tuple es) cs = (evs O ρ es cs).bind fun ws cs => mkTup ws cs := by rw [ev]
@[simp] theorem ev_cel {e : Ex} {ρ : ME} {cs : List Ob} : ev O ρ (.cel e) cs = (ev O ρ e cs).bind fun x cs => (match x with
  | .new xs => .ok (.ref cs.length) (cs ++ [.lst xs])
  | x => .ok x cs) := by rw [ev] <;> rfl
@[simp] theorem evs_nil {ρ : ME} {cs : List Ob} : evs O ρ .nil cs = .ok [] cs := by rw [evs]
@[simp] theorem evs_cons {e : Ex} {es : Exs} {ρ : ME} {cs : List Ob} : evs O ρ (.cons e es) cs = (ev O ρ e cs).bind fun x cs => (evs O ρ es cs).bind fun xs cs => .ok (fz x :: xs) cs := by rw [evs]
@[simp] theorem evO_none {ρ : ME} {cs : List Ob} : evO O ρ .none cs = .ok none cs := by rw [evO]
@[simp] theorem evO_some {e : Ex} {ρ : ME} {cs : List Ob} : evO O ρ (.some e) cs = (ev O ρ e cs).bind fun x cs => (match x with
  | .int i => .ok (some i) cs
  | _ => .bad) := by rw [evO] <;> rfl
@[simp] theorem evI_ex {e : Ex} {ρ : ME} {cs : List Ob} : evI O ρ (.ex e) cs = (ev O ρ e cs).bind fun x cs => ofO (srcOf cs x) cs := by rw [evI]
@[simp] theorem evI_range {a : Ex} {ρ : ME} {cs : List Ob} : evI O ρ (.range a) cs = (ev O ρ a cs).bind fun x cs => (match rangeW (.int 0) x with
  | some xs => .ok (.im xs) cs
  | none => .bad) := by rw [evI] <;> rfl
@[simp] theorem evI_range2 {a b : Ex} {ρ : ME} {cs : List Ob} : evI O ρ (.range2 a b) cs = (ev O ρ a cs).bind fun x cs => (ev O ρ b cs).bind fun y cs => (match rangeW x y with
  | some xs => .ok (.im xs) cs
  | none => .bad) := by rw [evI] <;> rfl
@[simp] theorem evI_enum {e : Ex} {ρ : ME} {cs : List Ob} : evI O ρ (.enum e) cs = (ev O ρ e cs).bind fun x cs => (match stillW x with
  | some (_, xs) => .ok (.im (enumW 0 xs)) cs
  | none => .bad) := by rw [evI] <;> rfl
@[simp] theorem evI_rev {e : Ex} {ρ : ME} {cs : List Ob} : evI O ρ (.rev e) cs = (ev O ρ e cs).bind fun x cs => (match stillW x with
  | some (_, xs) => .ok (.im xs.reverse) cs
  | none => .bad) := by rw [evI] <;> rfl
@[simp] theorem fz_non  : fz (.non) = .non := by rfl
@[simp] theorem fz_bl (b : Bool) : fz (.bl b) = .bl b := by rfl
@[simp] theorem fz_int (i : Int) : fz (.int i) = .int i := by rfl
@[simp] theorem fz_tup (xs : List W) : fz (.tup xs) = .tup xs := by rfl
@[simp] theorem fz_lst (xs : List W) : fz (.lst xs) = .lst xs := by rfl
@[simp] theorem fz_ref (n : Nat) : fz (.ref n) = .ref n := by rfl
@[simp] theorem fz_scr (xs : List W) : fz (.scr xs) = .scr xs := by rfl
@[simp] theorem fz_new (xs : List W) : fz (.new xs) = .lst xs := by rfl
@[simp] theorem truth_bl (b : Bool) (cs : List Ob) : truth cs (.bl b) = some b := by rfl
@[simp] theorem put_nm {i : Nat} {w : W} {ρ : ME} : put (.nm i) w ρ = some (ρ.set i (some w)) := by rfl
@[simp] theorem put_tp {is : List Nat} {ws : List W} {ρ : ME} : put (.tp is) (.tup ws) ρ = putS is ws ρ := by rfl
@[simp] theorem putS_nil {ρ : ME} : putS [] [] ρ = some ρ := by rfl
@[simp] theorem putS_cons {i : Nat} {is : List Nat} {w : W} {ws : List W} {ρ : ME} : putS (i :: is) (w :: ws) ρ = putS is ws (ρ.set i (some w)) := by rfl
@[simp] theorem wipe_nil {ρ : ME} : wipe ρ [] = ρ := by rfl
@[simp] theorem wipe_cons {i : Nat} {is : List Nat} {ρ : ME} : wipe ρ (i :: is) = (wipe ρ is).set i none := by rfl
@[simp] theorem itemsL_new (cs : List Ob) (xs : List W) : itemsL cs (.new xs) = some xs := by rfl
@[simp] theorem itemsL_lst (cs : List Ob) (xs : List W) : itemsL cs (.lst xs) = some xs := by rfl
@[simp] theorem itemsL_ref (cs : List Ob) (n : Nat) : itemsL cs (.ref n) = cellL cs n := by rfl
@[simp] theorem items_ref (cs : List Ob) (n : Nat) : items cs (.ref n) = cellL cs n := by rfl
@[simp] theorem items_scr (cs : List Ob) (xs : List W) : items cs (.scr xs) = some xs := by rfl
@[simp] theorem srcOf_tup (cs : List Ob) (xs : List W) : srcOf cs (.tup xs) = some (.im xs) := by rfl
@[simp] theorem srcOf_lst (cs : List Ob) (xs : List W) : srcOf cs (.lst xs) = some (.im xs) := by rfl
@[simp] theorem srcOf_new (cs : List Ob) (xs : List W) : srcOf cs (.new xs) = some (.im xs) := by rfl
@[simp] theorem stillW_tup (xs : List W) : stillW (.tup xs) = some (true, xs) := by rfl
@[simp] theorem isCell_ref (cs : List Ob) (n : Nat) : isCell cs (.ref n) = (cellL cs n).isSome := by rfl
@[simp] theorem isi_int (cs : List Ob) (i : Int) : isiW .int (.int i) cs = some true := by rfl
@[simp] theorem isi_bool (cs : List Ob) (i : Int) : isiW .bool (.int i) cs = some false := by rfl
@[simp] theorem isi_str (cs : List Ob) (i : Int) : isiW .str (.int i) cs = some false := by rfl
@[simp] theorem isi_tuple (cs : List Ob) (i : Int) : isiW .tuple (.int i) cs = some false := by rfl
@[simp] theorem isi_tup_int (cs : List Ob) (xs : List W) : isiW .int (.tup xs) cs = some false := by rfl
@[simp] theorem isi_tup_bool (cs : List Ob) (xs : List W) : isiW .bool (.tup xs) cs = some false := by rfl
@[simp] theorem isi_tup_str (cs : List Ob) (xs : List W) : isiW .str (.tup xs) cs = some false := by rfl
@[simp] theorem isi_tup_tuple (cs : List Ob) (xs : List W) : isiW .tuple (.tup xs) cs = some true := by rfl
@[simp] theorem isN_int (cs : List Ob) (i : Int) : cop .isN (.int i) .non cs = some false := by rfl
@[simp] theorem isN_tup (cs : List Ob) (xs : List W) : cop .isN (.tup xs) .non cs = some false := by rfl
@[simp] theorem isN_non (cs : List Ob) : cop .isN .non .non cs = some true := by rfl
@[simp] theorem blt_len_tup (cs : List Ob) (xs : List W) : blt .len [.tup xs] cs = .ok (.int xs.length) cs := by rfl
@[simp] theorem blt_len_lst (cs : List Ob) (xs : List W) : blt .len [.lst xs] cs = .ok (.int xs.length) cs := by rfl
@[simp] theorem blt_int (cs : List Ob) (i : Int) : blt .int [.int i] cs = .ok (.int i) cs := by rfl
@[simp] theorem blt_tuple_tup (cs : List Ob) (xs : List W) : blt .tuple [.tup xs] cs = mkTup xs cs := by rfl
@[simp] theorem blt_tuple_lst (cs : List Ob) (xs : List W) : blt .tuple [.lst xs] cs = mkTup xs cs := by rfl
@[simp] theorem blt_list_lst (cs : List Ob) (xs : List W) : blt .list [.lst xs] cs = mkNew xs cs := by rfl
@[simp] theorem blt_min2 (cs : List Ob) (i j : Int) : blt .min2 [.int i, .int j] cs = .ok (.int (if j < i then j else i)) cs := by rfl
theorem blt_len_ref {cs : List Ob} {n : Nat} {xs : List W} (h : cellL cs n = some xs) : blt .len [.ref n] cs = .ok (.int xs.length) cs := by
  simp only [blt, items, h]
theorem blt_tuple_ref {cs : List Ob} {n : Nat} {xs : List W} (h : cellL cs n = some xs) : blt .tuple [.ref n] cs = mkTup xs cs := by
  simp only [blt, items, h]
theorem blt_any {cs : List Ob} {bs : List Bool} : blt .any [.lst (bs.map W.bl)] cs = .ok (.bl (bs.any id)) cs := by
  simp [blt, itemsL]
theorem blt_all {cs : List Ob} {bs : List Bool} : blt .all [.lst (bs.map W.bl)] cs = .ok (.bl (bs.all id)) cs := by
  simp [blt, itemsL]
theorem eqW_int (a b : Int) : eqW (.int a) (.int b) = (a == b) := by rw [eqW]
@[simp] theorem cop_eq_int (a b : Int) (cs : List Ob) : cop .eq (.int a) (.int b) cs = some (a == b) := by
  show (if (okW deep (.int a) && okW deep (.int b)) = true then some (eqW (.int a) (.int b)) else none) = _
  rw [eqW_int]; rfl
@[simp] theorem cop_ne_int (a b : Int) (cs : List Ob) : cop .ne (.int a) (.int b) cs = some (!(a == b)) := by
  show (if (okW deep (.int a) && okW deep (.int b)) = true then some (!eqW (.int a) (.int b)) else none) = _
  rw [eqW_int]; rfl
@[simp] theorem cop_lt_int (a b : Int) (cs : List Ob) : cop .lt (.int a) (.int b) cs = some (decide (a < b)) := rfl
@[simp] theorem cop_le_int (a b : Int) (cs : List Ob) : cop .le (.int a) (.int b) cs = some (decide (a ≤ b)) := rfl
@[simp] theorem cop_gt_int (a b : Int) (cs : List Ob) : cop .gt (.int a) (.int b) cs = some (decide (b < a)) := rfl
@[simp] theorem cop_ge_int (a b : Int) (cs : List Ob) : cop .ge (.int a) (.int b) cs = some (decide (b ≤ a)) := rfl
@[simp] theorem bop_add (a b : Int) (cs : List Ob) : bop .add (.int a) (.int b) cs = .ok (.int (a + b)) cs := rfl
@[simp] theorem bop_sub (a b : Int) (cs : List Ob) : bop .sub (.int a) (.int b) cs = .ok (.int (a - b)) cs := rfl
theorem bop_mul {a b : Int} {cs : List Ob} (h : (-big < a ∧ a < big) ∨ (-big < b ∧ b < big)) : bop .mul (.int a) (.int b) cs = .ok (.int (a * b)) cs := by
  have e : mulOk a b = true := by
    unfold mulOk
    rcases h with ⟨h1, h2⟩ | ⟨h1, h2⟩
    · rw [decide_eq_true h1, decide_eq_true h2]; rfl
    · rw [decide_eq_true h1, decide_eq_true h2]; simp
  simp [bop, bopI, e]
theorem bop_mod {a b : Int} {cs : List Ob} (h : 0 < b) : bop .mod (.int a) (.int b) cs = .ok (.int (a % b)) cs := by
  simp [bop, bopI, h]
theorem bop_fdiv {a b : Int} {cs : List Ob} (h : 0 < b) (h2 : b < 1073741824) : bop .fdiv (.int a) (.int b) cs = .ok (.int (a / b)) cs := by
  simp [bop, bopI, h, h2]
theorem rangeW_eq {a b : Int} (h1 : okR a = true) (h2 : okR b = true) : rangeW (.int a) (.int b) = some (rangeI a (b - a).toNat) := by
  simp [rangeW, h1, h2]
theorem okR_of {a : Int} (h : -1000000 < a) (h2 : a < 1000000) : okR a = true := by
  simp [okR, h, h2]
theorem mkNew_ok {xs : List W} {cs : List Ob} (h : xs.length ≤ 100000) : mkNew xs cs = .ok (.new xs) cs := by
  rw [mkNew, if_pos (show xs.length ≤ lim from h)]
theorem mkTup_ok {xs : List W} {cs : List Ob} (h : xs.length ≤ 100000) : mkTup xs cs = .ok (.tup xs) cs := by
  rw [mkTup, if_pos (show xs.length ≤ lim from h)]
/-! ### comprehensions -/
/-- without a test, without change of a cell -/
theorem ev_map {elt : Ex} {t : Tg} {it : It} {own : List Nat} {ρ : ME} {cs : List Ob} {xs : List W} (f : W → W) (hi : evI O ρ it cs = .ok (.im xs) cs) (hl : xs.length ≤ 100000)
    (h : ∀ x ∈ xs, ∃ ρ' y, put t (fz x) (wipe ρ own) = some ρ' ∧ ev O ρ' elt cs = .ok y cs ∧ fz y = f x) : ev O ρ (.comp elt t it .none own) cs = .ok (.new (xs.map f)) cs := by
  rw [ev, hi, bind_ok, compS, compGo_map (f := fun x => some (f x))]
  · rw [bind_ok, List.filterMap_eq_map', mkNew_ok (by simpa using hl)]
  · intro x hx
    obtain ⟨ρ', y, e1, e2, e3⟩ := h x hx
    simp only [e1, evC, bind_ok, if_true, e2, e3, noX_ok]
/-- with a test, the name itself -/
theorem ev_filter {elt c : Ex} {t : Tg} {it : It} {own : List Nat} {ρ : ME} {cs : List Ob} {xs : List W} (f : W → Bool) (hi : evI O ρ it cs = .ok (.im xs) cs) (hl : xs.length ≤ 100000)
    (h : ∀ x ∈ xs, ∃ ρ', put t (fz x) (wipe ρ own) = some ρ' ∧ ev O ρ' c cs = .ok (.bl (f x)) cs ∧ ev O ρ' elt cs = .ok x cs ∧ fz x = x) : ev O ρ (.comp elt t it (.some c) own) cs = .ok (.new (xs.filter f)) cs := by
  have e0 : xs.filterMap (fun x => if f x then some x else none) = xs.filter f := by
    rw [← List.filterMap_eq_filter]; rfl
  rw [ev, hi, bind_ok, compS, compGo_map (f := fun x => if f x then some x else none)]
  · rw [bind_ok, e0, mkNew_ok (Nat.le_trans (List.length_filter_le ..) hl)]
  · intro x hx
    obtain ⟨ρ', e1, e2, e3, e4⟩ := h x hx
    rw [e4] at e1
    simp only [e1, evC, bind_ok, e2, e3, e4, truth, ofO_some]
    cases f x <;> rfl
theorem sat_setI {o i e : Ex} {ρ : ME} {cs : List Ob} {Q : Fl → List Ob → Prop}
    (h : Sat (ev O ρ e cs) fun v cs1 => Sat (ev O ρ o cs1) fun x cs2 => Sat (ev O ρ i cs2) fun y cs3 => ∃ cs4, setIdx x y (fz v) cs3 = some cs4 ∧ Q (.nx ρ) cs4) : Sat (run O (.setI o i e) ρ cs) Q := by
  rw [run]
  refine h.bind fun v cs1 h1 => h1.bind fun x cs2 h2 => h2.bind fun y cs3 h3 => ?_
  obtain ⟨cs4, e4, q⟩ := h3
  rw [e4]
  exact .ok q
theorem place_nat {n j : Nat} (h : j < n) : place n (j : Int) = some j := by
  rw [place, if_pos (by omega), if_pos (by omega)]; rfl
theorem at_nat {L : List Int} {j : Nat} (h : j < L.length) : at? (nums L) (j : Int) = some (.int (L.getD j 0)) := by
  rw [at?, nums_len, place_nat h]
  show (nums L)[j]? = _
  rw [nums_get, List.getElem?_eq_getElem h, List.getD_eq_getElem?_getD, List.getElem?_eq_getElem h]; rfl
theorem nums_set (L : List Int) (j : Nat) (v : Int) : (nums L).set j (.int v) = nums (L.set j v) := by
  simp [nums, List.map_set]
theorem setIdx_nat {cs : List Ob} {n j : Nat} {L : List Int} {v : Int} (hc : cellL cs n = some (nums L)) (h : j < L.length) : setIdx (.ref n) (.int (j : Int)) (.int v) cs = some (cs.set n (.lst (nums (L.set j v)))) := by
  simp only [setIdx, hc, nums_len, place_nat h, nums_set]
theorem bop_rep {w : W} {n : Nat} {cs : List Ob} (h : n ≤ 100000) : bop .mul (.new [w]) (.int (n : Int)) cs = .ok (.new (List.replicate n w)) cs := by
  show (if ((n : Int) < 1000000 ∧ -1000000 < (n : Int)) then mkNew (List.replicate (n : Int).toNat [w]).flatten cs else .bad) = _
  rw [if_pos (by omega)]
  have e : (List.replicate (n : Int).toNat [w]).flatten = List.replicate n w := by
    rw [Int.toNat_natCast]
    clear h
    induction n with
    | zero => rfl
    | succ n ih => rw [List.replicate_succ, List.flatten_cons, ih]; rfl
  rw [e, mkNew_ok (by simpa using h)]
/-! ### step by step through a body -/
def drop : Nat → Ss → Ss
  | 0, b => b
  | _ + 1, .nil => .nil
  | n + 1, .cons _ b => drop n b
theorem step (b : Ss) (n : Nat) {s : S} (e : drop n b = .cons s (drop (n + 1) b)) {ρ : ME} {cs : List Ob} {Q : Fl → List Ob → Prop} (M : ME → List Ob → Prop)
    (h : Sat (run O s ρ cs) fun fl cs1 => ∃ ρ1, fl = .nx ρ1 ∧ M ρ1 cs1) (k : ∀ ρ1 cs1, M ρ1 cs1 → Sat (runs O (drop (n + 1) b) ρ1 cs1) Q) : Sat (runs O (drop n b) ρ cs) Q := by
  rw [e]
  exact sat_go M h k
theorem step' (b : Ss) (n : Nat) {s : S} (e : drop n b = .cons s (drop (n + 1) b)) {ρ : ME} {cs : List Ob} {Q : Fl → List Ob → Prop}
    (h : Sat (run O s ρ cs) fun fl cs1 => match fl with
      | .nx ρ1 => Sat (runs O (drop (n + 1) b) ρ1 cs1) Q
      | fl => Q fl cs1) : Sat (runs O (drop n b) ρ cs) Q := by
  rw [e]
  exact sat_cons h
/-- a set that leaves the cells -/
theorem step_set (b : Ss) (n : Nat) {i : Nat} {x : Ex} (e : drop n b = .cons (.set i x) (drop (n + 1) b)) {ρ : ME} {cs : List Ob} {Q : Fl → List Ob → Prop} (w : W) {cs1 : List Ob}
    (h : ev O ρ x cs = .ok w cs1) (k : Sat (runs O (drop (n + 1) b) (ρ.set i (some (fz w))) cs1) Q) : Sat (runs O (drop n b) ρ cs) Q := by
  rw [e]
  exact sat_cons (sat_set (sat_of h k))
end Ev
end S_EvLib2

section S_K80m
set_option Elab.async false
set_option linter.all false
/-! K80m: polynomials by their zeros, modulo p. -/
namespace Po
/-- the coefficients of the product of all (x - n) -/
def E : List Int → Nat → Int
  | [], 0 => 1
  | [], _ + 1 => 0
  | n :: l, 0 => -n * E l 0
  | n :: l, j + 1 => E l j - n * E l (j + 1)
theorem E_swap (a b : Int) (l : List Int) (j : Nat) : E (a :: b :: l) j = E (b :: a :: l) j := by
  match j with
  | 0 => simp only [E]; grind
  | 1 => simp only [E]; grind
  | j + 2 => simp only [E]; grind
theorem E_perm {l m : List Int} (h : l.Perm m) : ∀ j, E l j = E m j := by
  induction h with
  | nil => intro j; rfl
  | cons a _ ih => intro j; cases j <;> simp only [E, ih]
  | swap a b l => intro j; exact E_swap _ _ _ _
  | trans _ _ h1 h2 => intro j; rw [h1, h2]
theorem E_top : ∀ (l : List Int), (∀ j, l.length < j → E l j = 0) ∧ E l l.length = 1
  | [] => ⟨fun j h => by cases j with
      | zero => simp at h
      | succ j => rfl, rfl⟩
  | n :: l => by
      obtain ⟨h1, h2⟩ := E_top l
      constructor
      · intro j h
        cases j with
        | zero => simp at h
        | succ j =>
            simp only [List.length_cons] at h
            simp only [E]
            rw [h1 j (by omega), h1 (j + 1) (by omega)]; simp
      · show E (n :: l) (l.length + 1) = 1
        simp only [E]
        rw [h2, h1 _ (by omega)]; simp

/-! ### modulo p -/
def Eq' (p a b : Int) : Prop := a % p = b % p
theorem Eq'.add {p a b c d : Int} (h : Eq' p a b) (k : Eq' p c d) : Eq' p (a + c) (b + d) := by
  unfold Eq' at *; rw [Int.add_emod, h, k, ← Int.add_emod]
theorem Eq'.sub {p a b c d : Int} (h : Eq' p a b) (k : Eq' p c d) : Eq' p (a - c) (b - d) := by
  unfold Eq' at *; rw [Int.sub_emod, h, k, ← Int.sub_emod]
theorem Eq'.mul {p a b c d : Int} (h : Eq' p a b) (k : Eq' p c d) : Eq' p (a * c) (b * d) := by
  unfold Eq' at *; rw [Int.mul_emod, h, k, ← Int.mul_emod]
theorem Eq'.rfl' {p a : Int} : Eq' p a a := rfl
theorem Eq'.of {p a b : Int} (h : a = b) : Eq' p a b := h ▸ rfl
theorem Eq'.symm {p a b : Int} (h : Eq' p a b) : Eq' p b a := Eq.symm h
theorem Eq'.trans {p a b c : Int} (h : Eq' p a b) (k : Eq' p b c) : Eq' p a c := Eq.trans h k
theorem Eq'.mod (p a : Int) : Eq' p (a % p) a := by unfold Eq'; exact Int.emod_emod_of_dvd _ (Int.dvd_refl _)

/-! ### products -/
def up (f : Nat → Int) : Nat → Int
  | 0 => 0
  | j + 1 => f j
/-- the product of a list and coefficients -/
def cv : List Int → (Nat → Int) → Nat → Int
  | [], _, _ => 0
  | a :: A, g, j => a * g j + up (cv A g) j
theorem cv_congr {p : Int} {g g' : Nat → Int} (h : ∀ j, Eq' p (g j) (g' j)) : ∀ (A : List Int) (j : Nat), Eq' p (cv A g j) (cv A g' j)
  | [], _ => rfl
  | a :: A, 0 => (Eq'.rfl'.mul (h 0)).add rfl
  | a :: A, j + 1 => (Eq'.rfl'.mul (h (j + 1))).add (cv_congr h A j)
theorem cv_lin {g u v : Nat → Int} {n : Int} (h : ∀ j, g j = up u j - n * v j) : ∀ (A : List Int) (j : Nat), cv A g j = up (cv A u) j - n * cv A v j
  | [], j => by cases j <;> simp [cv, up]
  | a :: A, 0 => by simp only [cv, up, h]; grind
  | a :: A, j + 1 => by
      have e := cv_lin h A j
      simp only [cv, up, h] at *
      rw [e]
      cases j with
      | zero => simp only [up, cv]; grind
      | succ j => simp only [up, cv]; grind
theorem E_cons (n : Int) (l : List Int) (j : Nat) : E (n :: l) j = up (E l) j - n * E l j := by
  cases j with
  | zero => simp only [E, up]; grind
  | succ j => rfl
theorem cv_one : ∀ (A : List Int) (j : Nat), cv A (E []) j = A.getD j 0
  | [], j => by cases j <;> rfl
  | a :: A, 0 => by simp [cv, E, up]
  | a :: A, j + 1 => by
      simp only [cv, E, up, Int.mul_zero, Int.zero_add, List.getD_cons_succ]
      exact cv_one A j
theorem up_congr {p : Int} {g g' : Nat → Int} (h : ∀ j, Eq' p (g j) (g' j)) : ∀ j, Eq' p (up g j) (up g' j)
  | 0 => rfl
  | j + 1 => h j
theorem cv_E {p : Int} {A la : List Int} (h : ∀ j, Eq' p (A.getD j 0) (E la j)) : ∀ (lb : List Int) (j : Nat), Eq' p (cv A (E lb) j) (E (lb ++ la) j)
  | [], j => by rw [cv_one]; exact h j
  | n :: lb, j => by
      rw [cv_lin (E_cons n lb)]
      show Eq' p _ (E (n :: (lb ++ la)) j)
      rw [E_cons]
      exact (up_congr (fun j => cv_E h lb j) j).sub (Eq'.rfl'.mul (cv_E h lb j))
/-- R holds the coefficients -/
def Is (p : Int) (R l : List Int) : Prop := ∀ j, R.getD j 0 = E l j % p
theorem Is.eq' {p : Int} {R l : List Int} (h : Is p R l) (j : Nat) : Eq' p (R.getD j 0) (E l j) := by
  rw [h j]; exact Eq'.mod _ _
theorem cv_is {p : Int} {A B la lb : List Int} (ha : Is p A la) (hb : Is p B lb) (j : Nat) : Eq' p (cv A (fun j => B.getD j 0) j) (E (lb ++ la) j) :=
  (cv_congr (fun j => hb.eq' j) A j).trans (cv_E (fun j => ha.eq' j) lb j)

/-- PL: the polynomial of these zeros -/
def PL (p : Int) (l : List Int) : List Int := (List.range (l.length + 1)).map fun j => E l j % p
theorem PL_len (p : Int) (l : List Int) : (PL p l).length = l.length + 1 := by simp [PL]
theorem PL_is (p : Int) (l : List Int) : Is p (PL p l) l := by
  intro j
  by_cases h : j < l.length + 1
  · simp [PL, List.getD_eq_getElem?_getD, h]
  · rw [(E_top l).1 j (by omega)]
    simp [PL, List.getD_eq_getElem?_getD, h]
theorem PL_perm {p : Int} {l m : List Int} (h : l.Perm m) : PL p l = PL p m := by
  unfold PL
  rw [h.length_eq]
  exact List.map_congr_left fun j _ => by rw [E_perm h]
theorem PL_bound {p : Int} (hp : 0 < p) {l : List Int} {x : Int} (h : x ∈ PL p l) : 0 ≤ x ∧ x < p := by
  simp only [PL, List.mem_map] at h
  obtain ⟨j, _, e⟩ := h
  subst e
  exact ⟨Int.emod_nonneg _ (by omega), Int.emod_lt_of_pos _ hp⟩
/-- a row without noughts at its end that holds the coefficients is the polynomial -/
theorem Is.unique {p : Int} (hp : 1 < p) {R l : List Int} (h : Is p R l) (z : ∀ r, R.getLast? = some r → r ≠ 0) : R = PL p l := by
  have h1 : E l l.length % p = 1 := by rw [(E_top l).2]; exact Int.emod_eq_of_lt (by decide) hp
  have hl : R.length = l.length + 1 := by
    have a : l.length < R.length := by
      apply Classical.byContradiction
      intro hn
      have e := h l.length
      rw [h1, List.getD_eq_getElem?_getD, List.getElem?_eq_none (by omega)] at e
      simp at e
    apply Classical.byContradiction
    intro hn
    have e := h (R.length - 1)
    rw [(E_top l).1 _ (by omega), List.getD_eq_getElem?_getD, ← List.getLast?_eq_getElem?] at e
    cases q : R.getLast? with
    | none => rw [List.getLast?_eq_none_iff] at q; rw [q] at a; simp at a
    | some r =>
        rw [q] at e
        exact z r q (by simpa using e)
  apply List.ext_getElem
  · rw [hl, PL_len]
  · intro i h1 h2
    have e1 := h i
    have e2 := PL_is p l i
    rw [List.getD_eq_getElem?_getD, List.getElem?_eq_getElem h1] at e1
    rw [List.getD_eq_getElem?_getD, List.getElem?_eq_getElem h2] at e2
    simp only [Option.getD_some] at e1 e2
    rw [e1, e2]
/-! the terms of a product, in the order in which they are added -/
def sh (b : List Int) (i j : Nat) : Int := if i ≤ j then b.getD (j - i) 0 else 0
def T : List Int → List Int → Nat → Nat → Int
  | [], _, _, _ => 0
  | a :: A, b, i, j => a * sh b i j + T A b (i + 1) j
theorem T_cv (b : List Int) : ∀ (A : List Int) (i j : Nat), T A b i j = if i ≤ j then cv A (fun j => b.getD j 0) (j - i) else 0
  | [], i, j => by simp [T, cv]
  | a :: A, i, j => by
      rw [T, T_cv b A, sh]
      by_cases h : i ≤ j
      · by_cases h2 : i + 1 ≤ j
        · obtain ⟨k, e⟩ : ∃ k, j - i = k + 1 := ⟨j - i - 1, by omega⟩
          have e2 : j - (i + 1) = k := by omega
          rw [if_pos h, if_pos h2, if_pos h, e, e2, cv]; rfl
        · have e : j - i = 0 := by omega
          rw [if_pos h, if_neg h2, if_pos h, e, cv]; rfl
      · rw [if_neg h, if_neg (by omega), if_neg h]; simp
def U (a : Int) : List Int → Nat → Nat → Int
  | [], _, _ => 0
  | b :: B, q, j => (if j = q then a * b else 0) + U a B (q + 1) j
theorem U_sh (a : Int) : ∀ (B : List Int) (q j : Nat), U a B q j = a * sh B q j
  | [], q, j => by simp [U, sh]
  | b :: B, q, j => by
      rw [U, U_sh a B, sh, sh]
      by_cases h : q ≤ j
      · by_cases h2 : q + 1 ≤ j
        · obtain ⟨k, e⟩ : ∃ k, j - q = k + 1 := ⟨j - q - 1, by omega⟩
          have e2 : j - (q + 1) = k := by omega
          rw [if_neg (by omega), if_pos h2, if_pos h, e, e2, List.getD_cons_succ]; simp
        · have e : j = q := by omega
          subst e
          rw [if_pos rfl, if_neg h2, if_pos h]; simp
      · rw [if_neg (by omega), if_neg (by omega), if_neg h]; simp
/-- what a product's places hold behind all terms -/
theorem prod_is {p : Int} {A B la lb : List Int} (ha : Is p A la) (hb : Is p B lb) (j : Nat) : Eq' p (T A B 0 j) (E (lb ++ la) j) := by
  rw [T_cv, if_pos (Nat.zero_le _)]
  exact cv_is ha hb j

/-! ### values -/
def pv : List Int → Int → Int
  | [], _ => 1
  | n :: l, x => (x - n) * pv l x
def hf (f : Nat → Int) (x : Int) : Nat → Int
  | 0 => 0
  | m + 1 => f 0 + x * hf (fun j => f (j + 1)) x m
theorem hf_stop {x : Int} : ∀ {m : Nat} {f : Nat → Int}, f m = 0 → hf f x (m + 1) = hf f x m
  | 0, f, h => by simp [hf, h]
  | m + 1, f, h => by
      rw [hf, hf_stop (m := m) (f := fun j => f (j + 1)) h]; rfl
theorem hf_lin {x n : Int} {g u v : Nat → Int} (h : ∀ j, g j = u j - n * v j) : ∀ m, hf g x m = hf u x m - n * hf v x m := by
  intro m
  induction m generalizing g u v with
  | zero => simp [hf]
  | succ m ih =>
      rw [hf, hf, hf, ih (g := fun j => g (j + 1)) (u := fun j => u (j + 1)) (v := fun j => v (j + 1)) (fun j => h (j + 1)), h 0]
      grind
theorem hf_E : ∀ (l : List Int) (x : Int), hf (E l) x (l.length + 1) = pv l x
  | [], x => by simp [hf, E, pv]
  | n :: l, x => by
      rw [hf_lin (E_cons n l), pv, ← hf_E l x]
      have e1 : hf (up (E l)) x ((n :: l).length + 1) = x * hf (E l) x (l.length + 1) := by
        show hf (up (E l)) x (l.length + 1 + 1) = _
        rw [hf]; simp [up]
      have e2 : hf (E l) x ((n :: l).length + 1) = hf (E l) x (l.length + 1) := by
        show hf (E l) x (l.length + 1 + 1) = _
        exact hf_stop ((E_top l).1 _ (by omega))
      rw [e1, e2]; grind
/-- Horner's way -/
def V (p : Int) (L : List Int) (x : Int) : Int := L.foldr (fun c f => (f * x + c) % p) 0
theorem V_hf {p : Int} : ∀ (L : List Int) (x : Int), V p L x = hf (fun j => L.getD j 0) x L.length % p
  | [], x => by simp [V, hf]
  | c :: L, x => by
      show (V p L x * x + c) % p = _
      rw [V_hf L x, List.length_cons, hf]
      simp only [List.getD_cons_succ, List.getD_cons_zero]
      have e : Eq' p (hf (fun j => L.getD j 0) x L.length % p * x + c) (c + x * hf (fun j => L.getD j 0) x L.length) := by
        refine (((Eq'.mod p _).mul Eq'.rfl').add Eq'.rfl').trans (Eq'.of ?_)
        grind
      exact e
theorem hf_congr {p x : Int} : ∀ (m : Nat) {f g : Nat → Int}, (∀ j, Eq' p (f j) (g j)) → Eq' p (hf f x m) (hf g x m)
  | 0, _, _, _ => rfl
  | m + 1, f, g, h => (h 0).add (Eq'.rfl'.mul (hf_congr m fun j => h (j + 1)))
theorem V_PL (p : Int) (l : List Int) (x : Int) : V p (PL p l) x = pv l x % p := by
  rw [V_hf, PL_len, ← hf_E]
  exact hf_congr _ fun j => (PL_is p l).eq' j
theorem V_bound {p : Int} (hp : 0 < p) : ∀ (L : List Int) (x : Int), 0 ≤ V p L x ∧ V p L x < p
  | [], x => by simp [V, hp]
  | c :: L, x => ⟨Int.emod_nonneg _ (by omega), Int.emod_lt_of_pos _ hp⟩
theorem pv_perm {l m : List Int} (h : l.Perm m) (x : Int) : pv l x = pv m x := by
  induction h with
  | nil => rfl
  | cons a _ ih => rw [pv, pv, ih]
  | swap a b l => simp only [pv]; grind
  | trans _ _ h1 h2 => rw [h1, h2]
/-- the law's own marks -/
def mk (p y : Int) (l : List Int) (m : Int) : Int := l.foldl (fun m x => m * (y - x) % p) m
theorem mk_pv {p y : Int} : ∀ (l : List Int) (m : Int), Eq' p (mk p y l m) (m * pv l y)
  | [], m => Eq'.of (by simp [mk, pv])
  | x :: l, m => by
      refine (mk_pv l (m * (y - x) % p)).trans (((Eq'.mod p _).mul Eq'.rfl').trans (Eq'.of ?_))
      rw [pv]; grind
theorem mk_bound {p y : Int} (hp : 0 < p) : ∀ (l : List Int) (m : Int), 0 ≤ m → m < p → 0 ≤ mk p y l m ∧ mk p y l m < p
  | [], m, h1, h2 => ⟨h1, h2⟩
  | x :: l, m, _, _ => mk_bound hp l _ (Int.emod_nonneg _ (by omega)) (Int.emod_lt_of_pos _ hp)
theorem mk_eq {p y : Int} (hp : 1 < p) (l : List Int) : mk p y l 1 = pv l y % p := by
  have h := mk_pv (p := p) (y := y) l 1
  obtain ⟨a, b⟩ := mk_bound (y := y) (by omega : (0 : Int) < p) l 1 (by decide) hp
  unfold Eq' at h
  rw [Int.emod_eq_of_lt a b, Int.one_mul] at h
  exact h

/-! ### primes -/
def Pr (p : Int) : Prop := 2 ≤ p ∧ ∀ d : Int, 2 ≤ d → d < p → p % d ≠ 0
theorem Pr.mul {p : Int} (h : Pr p) {a b : Int} (e : a * b % p = 0) : a % p = 0 ∨ b % p = 0 := by
  obtain ⟨h2, hd⟩ := h
  obtain ⟨n, rfl⟩ : ∃ n : Nat, p = n := ⟨p.toNat, by omega⟩
  have d1 : (n : Int) ∣ a * b := Int.dvd_of_emod_eq_zero e
  have d2 : n ∣ a.natAbs * b.natAbs := by
    rw [← Int.natAbs_mul]
    have := Int.natAbs_dvd_natAbs.mpr d1
    rwa [Int.natAbs_natCast] at this
  have g1 : Nat.gcd n a.natAbs ∣ n := Nat.gcd_dvd_left ..
  have g2 : Nat.gcd n a.natAbs ∣ a.natAbs := Nat.gcd_dvd_right ..
  have gp : 0 < Nat.gcd n a.natAbs := Nat.gcd_pos_of_pos_left _ (by omega)
  have gl : Nat.gcd n a.natAbs ≤ n := Nat.le_of_dvd (by omega) g1
  by_cases c1 : Nat.gcd n a.natAbs = 1
  · right
    have c : Nat.Coprime n a.natAbs := c1
    have q := Nat.Coprime.dvd_of_dvd_mul_left c d2
    refine Int.emod_eq_zero_of_dvd (Int.natAbs_dvd_natAbs.mp ?_)
    rwa [Int.natAbs_natCast]
  · by_cases c2 : Nat.gcd n a.natAbs = n
    · left
      rw [c2] at g2
      refine Int.emod_eq_zero_of_dvd (Int.natAbs_dvd_natAbs.mp ?_)
      rwa [Int.natAbs_natCast]
    · exfalso
      refine hd (Nat.gcd n a.natAbs : Nat) (by omega) (by omega) ?_
      exact Int.emod_eq_zero_of_dvd (Int.natCast_dvd_natCast.mpr g1)
theorem Pr.pvz {p : Int} (h : Pr p) (x : Int) : ∀ (l : List Int), pv l x % p = 0 → ∃ n ∈ l, (x - n) % p = 0
  | [], e => by
      obtain ⟨h2, _⟩ := h
      rw [pv, Int.emod_eq_of_lt (by decide) (by omega)] at e
      simp at e
  | n :: l, e => by
      rcases h.mul e with e | e
      · exact ⟨n, List.mem_cons_self .., e⟩
      · obtain ⟨m, hm, e⟩ := h.pvz x l e
        exact ⟨m, List.mem_cons_of_mem _ hm, e⟩
theorem pv_mem {p x : Int} : ∀ {l : List Int}, x ∈ l → pv l x = 0
  | n :: l, h => by
      rw [pv]
      rcases List.mem_cons.mp h with e | h
      · subst e; simp
      · rw [pv_mem (p := p) h]; simp
theorem near {p a b : Int} (ha : 0 ≤ a) (ha' : a < p) (hb : 0 ≤ b) (hb' : b < p) (e : (a - b) % p = 0) : a = b := by
  have d := Int.dvd_of_emod_eq_zero e
  obtain ⟨k, hk⟩ := d
  have h1 : k < 1 := by
    apply Classical.byContradiction
    intro hn
    have : p * 1 ≤ p * k := Int.mul_le_mul_of_nonneg_left (by omega) (by omega)
    omega
  have h2 : -1 < k := by
    apply Classical.byContradiction
    intro hn
    have : p * k ≤ p * (-1) := Int.mul_le_mul_of_nonneg_left (by omega) (by omega)
    omega
  have : k = 0 := by omega
  subst this
  simp at hk
  omega
/-- the zeros are the lot -/
theorem Pr.zero_iff {p : Int} (h : Pr p) {l : List Int} (hl : ∀ n ∈ l, 0 ≤ n ∧ n < p) {x : Int} (h1 : 0 ≤ x) (h2 : x < p) : pv l x % p = 0 ↔ x ∈ l := by
  constructor
  · intro e
    obtain ⟨n, hn, e⟩ := h.pvz x l e
    have := near h1 h2 (hl n hn).1 (hl n hn).2 e
    subst this; exact hn
  · intro hx
    rw [pv_mem (p := p) hx]; simp
/-- no mark is nought -/
theorem Pr.mark {p : Int} (h : Pr p) {l : List Int} {y : Int} (hl : ∀ n ∈ l, 0 < y - n ∧ y - n < p) : pv l y % p ≠ 0 := by
  intro e
  obtain ⟨n, hn, e⟩ := h.pvz y l e
  rw [Int.emod_eq_of_lt (by have := hl n hn; omega) (hl n hn).2] at e
  have := hl n hn
  omega

/-! ### rising rows -/
def Up (l : List Int) : Prop := l.Pairwise (· < ·)
theorem Up.uniq : ∀ {l m : List Int}, Up l → Up m → (∀ x, x ∈ l ↔ x ∈ m) → l = m
  | [], [], _, _, _ => rfl
  | [], b :: m, _, _, h => absurd ((h b).mpr (List.mem_cons_self ..)) (by simp)
  | a :: l, [], _, _, h => absurd ((h a).mp (List.mem_cons_self ..)) (by simp)
  | a :: l, b :: m, hl, hm, h => by
      unfold Up at hl hm
      rw [List.pairwise_cons] at hl hm
      have e : a = b := by
        have h1 := (h a).mp (List.mem_cons_self ..)
        have h2 := (h b).mpr (List.mem_cons_self ..)
        rcases List.mem_cons.mp h1 with e | h1
        · exact e
        · rcases List.mem_cons.mp h2 with e | h2
          · exact e.symm
          · have := hl.1 _ h2
            have := hm.1 _ h1
            omega
      subst e
      rw [Up.uniq hl.2 hm.2 fun x => ?_]
      constructor
      · intro hx
        rcases List.mem_cons.mp ((h x).mp (List.mem_cons_of_mem _ hx)) with e | z
        · have := hl.1 _ hx; omega
        · exact z
      · intro hx
        rcases List.mem_cons.mp ((h x).mpr (List.mem_cons_of_mem _ hx)) with e | z
        · have := hm.1 _ hx; omega
        · exact z
def upto (n : Nat) : List Int := (List.range n).map fun (i : Nat) => (i : Int)
theorem upto_up (n : Nat) : Up (upto n) := by
  unfold Up upto
  rw [List.pairwise_map]
  exact List.pairwise_lt_range.imp fun h => by omega
theorem mem_upto {n : Nat} {x : Int} : x ∈ upto n ↔ 0 ≤ x ∧ x < n := by
  simp only [upto, List.mem_map, List.mem_range]
  constructor
  · rintro ⟨i, h, rfl⟩; omega
  · intro h; exact ⟨x.toNat, by omega, by omega⟩
theorem roots_eq {p : Int} (h : Pr p) {l : List Int} (hl : ∀ n ∈ l, 0 ≤ n ∧ n < p) (hu : Up l) : (upto p.toNat).filter (fun x => decide (pv l x % p = 0)) = l := by
  refine Up.uniq (List.Pairwise.filter _ (upto_up _)) hu fun x => ?_
  have h2 := h.1
  rw [List.mem_filter, mem_upto]
  constructor
  · rintro ⟨⟨a, b⟩, e⟩
    exact (h.zero_iff hl a (by omega)).mp (by simpa using e)
  · intro hx
    have := hl x hx
    exact ⟨by omega, by simpa using (h.zero_iff hl this.1 this.2).mpr hx⟩
end Po
end S_K80m

section S_K80e
set_option Elab.async false
set_option linter.all false
set_option maxRecDepth 100000
/-! K80e: what the program's functions compute. -/
namespace K80
open Mi Ev Po
abbrev ds : List Mi.Def := defs.map (·.d)
abbrev gg : PySem.Str → Option W := So.gOf consts
abbrev FF : Nat := 3000
abbrev C (k : Nat) : Nat → List W → List Ob → R W := Mi.calls ds gg FF k
abbrev OO (k : Nat) : Orc := ⟨C k, gg, FF⟩
theorem C_run {k n : Nat} {d : Mi.Def} {ws : List W} {cs : List Ob} (h : ds[n]? = some d) : C (k + 1) n ws cs = d.run (OO k) ws cs := by
  show Mi.calls ds gg FF (k + 1) n ws cs = _
  rw [Mi.calls, h]
/-- a pure call's answer -/
def P (k n : Nat) (vs : List W) (v : W) : Prop := Sat (C k n vs []) fun w c1 => handed c1 w = some v
theorem P.call {k n : Nat} {ws vs : List W} {v : W} {cs : List Ob} (h : P k n vs v) (hd : derefL (deref cs deep) ws = some vs) : callP (OO k) n ws cs = .ok v cs := by
  obtain ⟨w, c1, e, q⟩ := h.ex
  exact callP_eq hd e q
theorem P_of {k n : Nat} {d : Mi.Def} {vs : List W} {v : W} (h : ds[n]? = some d) (hl : vs.length = d.pars)
    (r : Sat (runs (OO k) d.body (entry d vs) []) fun fl cs1 => match fl with
      | .nx _ => v = .non
      | .ret w => handed cs1 w = some v
      | _ => False) : P (k + 1) n vs v := by
  unfold P
  rw [C_run h]
  refine sat_def hl (r.mono fun fl cs1 z => ?_)
  cases fl with
  | nx ρ => simp only at z ⊢; subst z; rfl
  | ret w => exact z
  | bk ρ => exact z
  | ct ρ => exact z
theorem at_is_from_to : ds[0]? = some t_is_from_to.d := rfl
theorem at_check_prime : ds[1]? = some t_check_prime.d := rfl
theorem at_trimmed : ds[2]? = some t_trimmed.d := rfl
theorem at_value_of : ds[3]? = some t_value_of.d := rfl
theorem at_product_of : ds[4]? = some t_product_of.d := rfl
theorem at_polynomial_of : ds[5]? = some t_polynomial_of.d := rfl
theorem at_zeros_of : ds[6]? = some t_zeros_of.d := rfl
theorem at_value_at : ds[7]? = some t_value_at.d := rfl
theorem at_times : ds[8]? = some t_times.d := rfl
theorem at_with_roots : ds[9]? = some t_with_roots.d := rfl
theorem at_roots_of : ds[10]? = some t_roots_of.d := rfl
theorem at_check_number : ds[11]? = some t_check_number.d := rfl
theorem at_is_rising : ds[12]? = some t_is_rising.d := rfl
theorem at_check_numbers : ds[13]? = some t_check_numbers.d := rfl
theorem at_marks_of : ds[14]? = some t_marks_of.d := rfl
theorem at_marks : ds[15]? = some t_marks.d := rfl
theorem at_law_source : ds[16]? = some t_law_source.d := rfl
theorem at_law_draw : ds[17]? = some t_law_draw.d := rfl
theorem at_law_same : ds[18]? = some t_law_same.d := rfl
theorem at_law_prime : ds[19]? = some t_law_prime.d := rfl
theorem at_law_taken : ds[20]? = some t_law_taken.d := rfl
theorem at_law_marks : ds[21]? = some t_law_marks.d := rfl
theorem at_law_poly : ds[22]? = some t_law_poly.d := rfl
theorem at_law_lot_right : ds[23]? = some t_law_lot_right.d := rfl
theorem at_law : ds[24]? = some t_law.d := rfl
@[simp] theorem derefL_cons {d : W → Option W} {w : W} {ws : List W} : derefL d (w :: ws) = (match d w, derefL d ws with
    | some v, some vs => some (v :: vs)
    | _, _ => none) := by rw [derefL] <;> rfl
@[simp] theorem derefL_nil {d : W → Option W} : derefL d [] = some [] := by rw [derefL]
@[simp] theorem glob1 : gg "LEAST_PRIME" = some (.int 17) := by kernel_rfl
@[simp] theorem glob2 : gg "MOST_PRIME" = some (.int 997) := by kernel_rfl
@[simp] theorem glob3 : gg "MOST_MARKS" = some (.int 12) := by kernel_rfl
@[simp] theorem glob4 : gg "MOST_NUMBERS" = some (.int 60) := by kernel_rfl

theorem p_is_from_to (k : Nat) (v l m : Int) : P (k + 1) 0 [.int v, .int l, .int m] (.bl (decide (l ≤ v) && decide (v ≤ m))) := by
  refine P_of at_is_from_to (by rfl) ?_
  show Sat (runs (OO k) b_is_from_to [some (.int v), some (.int l), some (.int m)] []) _
  refine sat_cons (sat_ret ?_)
  by_cases h : l ≤ v <;> simp [h]
theorem rangeI_mem {lo : Int} {n : Nat} {x : W} (h : x ∈ rangeI lo n) : ∃ i : Nat, i < n ∧ x = .int (lo + i) := by
  simp only [rangeI, List.mem_map, List.mem_range] at h
  obtain ⟨i, h1, h2⟩ := h
  exact ⟨i, h1, h2.symm⟩
theorem rangeI_len (lo : Int) (n : Nat) : (rangeI lo n).length = n := by simp [rangeI]
/-- a prime in bounds -/
structure Prim (p : Int) : Prop where
  lo : 17 ≤ p
  hi : p ≤ 997
  pr : Pr p
theorem p_check_prime (k : Nat) {p : Int} (h : Prim p) : P (k + 2) 1 [.int p] .non := by
  refine P_of at_check_prime (by rfl) ?_
  show Sat (runs (OO (k + 1)) b_check_prime [some (.int p), none] []) _
  have h1 := h.lo
  have h2 := h.hi
  refine sat_cons (sat_if ?_)
  have e := (p_is_from_to k p 17 997).call (cs := []) (ws := [.int p, .int 17, .int 997]) (by simp)
  have e1 : evI (OO (k + 1)) [some (.int p), none] (.range2 (.int 2) (.var 0)) [] = .ok (.im (rangeI 2 (p - 2).toNat)) [] := by
    simp [rangeW_eq (a := 2) (b := p) rfl (okR_of (by omega) (by omega))]
  have e2 := ev_map (O := OO (k + 1)) (elt := .cmp .eq (.bin .mod (.var 0) (.var 1)) (.int 0)) (t := .nm 1) (own := [1]) (fun x => .bl false) e1 (by rw [rangeI_len]; omega) (by
    intro x hx
    obtain ⟨i, hi, rfl⟩ := rangeI_mem hx
    refine ⟨_, .bl false, rfl, ?_, rfl⟩
    have hm : p % (2 + (i : Int)) ≠ 0 := h.pr.2 _ (by omega) (by omega)
    simp [bop_mod (show (0 : Int) < 2 + i by omega), hm])
  have e3 : blt .any [.lst ((rangeI 2 (p - 2).toNat).map fun x => W.bl false)] [] = .ok (.bl false) [] := by
    have := blt_any (cs := []) (bs := (rangeI 2 (p - 2).toNat).map fun x => false)
    rw [List.map_map] at this
    refine Eq.trans this ?_
    have q : ((rangeI 2 (p - 2).toNat).map fun x => false).any id = false := by simp
    rw [q]
  simp only [ev_or, ev_not, ev_callP, evs_cons, evs_nil, ev_var, ev_glob, ev_int, ev_blt, bind_ok, glob1, glob2, ofO_some, fz_int, e2, List.getElem?_cons_zero]
  rw [e]
  simp only [bind_ok, truth_bl, h1, h2, decide_true, Bool.and_true, Bool.not_true, e2, fz_new, e3, sat_ok]
  refine sat_nil ?_
  refine sat_nil ?_
  trivial
/-! trimmed -/
def trim (L : List Int) : List Int := (L.reverse.dropWhile (· == 0)).reverse
theorem trim_snoc (L : List Int) : trim (L ++ [0]) = trim L := by simp [trim]
theorem trim_done {L : List Int} (h : ∀ r, L.getLast? = some r → r ≠ 0) : trim L = L := by
  unfold trim
  cases e : L.reverse with
  | nil => rw [List.reverse_eq_nil_iff] at e; subst e; rfl
  | cons a l =>
      have : L = l.reverse ++ [a] := by
        have := congrArg List.reverse e
        simpa using this
      have ha : a ≠ 0 := h a (by rw [this]; simp)
      rw [List.dropWhile_cons_of_neg (by simpa using ha), ← e, List.reverse_reverse]
theorem trim_get (L : List Int) (j : Nat) : (trim L).getD j 0 = L.getD j 0 := by
  suffices ∀ n, ∀ L : List Int, L.length = n → (trim L).getD j 0 = L.getD j 0 from this _ L rfl
  intro n
  induction n with
  | zero => intro L h; rw [List.length_eq_zero_iff] at h; subst h; rfl
  | succ n ih =>
      intro L h
      by_cases c : L.getLast? = some 0
      · obtain ⟨M, rfl⟩ : ∃ M, L = M ++ [0] := by
          rw [List.getLast?_eq_some_iff] at c
          exact c
        rw [trim_snoc, ih M (by simpa using h)]
        simp only [List.getD_eq_getElem?_getD, List.getElem?_append]
        split
        · rfl
        · rename_i hj
          rw [List.getElem?_eq_none (by omega)]
          cases e : ([0] : List Int)[j - M.length]? with
          | none => rfl
          | some x =>
              have : x ∈ ([0] : List Int) := List.mem_of_getElem? e
              simp at this; subst this; rfl
      · rw [trim_done]
        intro r hr e
        subst e
        exact c hr
theorem trim_last (L : List Int) : ∀ r, (trim L).getLast? = some r → r ≠ 0 := by
  intro r hr
  unfold trim at hr
  rw [List.getLast?_reverse] at hr
  have := List.head?_dropWhile_not (p := fun x : Int => x == 0) (l := L.reverse)
  rw [hr] at this
  simpa using this
theorem trim_PL {p : Int} (hp : 1 < p) {L l : List Int} (h : Is p L l) : trim L = PL p l :=
  Is.unique hp (fun j => by rw [trim_get]; exact h j) (trim_last L)
theorem at_last {xs : List W} {x : W} : at? (xs ++ [x]) (-1) = some x := by
  have e : place (xs ++ [x]).length (-1) = some xs.length := by
    have : (xs ++ [x]).length = xs.length + 1 := by simp
    rw [this, place, if_neg (by omega), if_pos (by omega)]
    congr 1
    omega
  rw [at?, e]
  show (xs ++ [x])[xs.length]? = some x
  simp
@[simp] theorem cellL_0 (xs : List W) (cs : List Ob) : cellL (.lst xs :: cs) 0 = some xs := rfl
theorem eq_snoc {α : Type} (l : List α) : l = [] ∨ ∃ m a, l = m ++ [a] := by
  rcases l.eq_nil_or_concat with e | ⟨m, a, e⟩
  · exact .inl e
  · exact .inr ⟨m, a, by rw [e, List.concat_eq_append]⟩
theorem p_trimmed (k : Nat) {L : List Int} (hl : L.length < 2000) : P (k + 1) 2 [.lst (nums L)] (tI (trim L)) := by
  refine P_of at_trimmed (by rfl) ?_
  show Sat (runs (OO k) b_trimmed [some (.lst (nums L)), none] []) _
  refine sat_cons (sat_set ?_)
  rw [ev_cel, ev_blt, evs_cons, ev_var]
  simp only [List.getElem?_cons_zero, bind_ok, evs_nil, fz_lst, blt_list_lst]
  rw [mkNew_ok (by rw [nums_len]; omega)]
  simp only [bind_ok, sat_ok, List.nil_append, List.length_nil, List.set_cons_succ, List.set_cons_zero, fz_ref]
  refine sat_cons ?_
  refine sat_while (I := fun m ρ cs => ∃ M : List Int, m = M.length ∧ ρ = [some (.lst (nums L)), some (.ref 0)] ∧ cs = [.lst (nums M)] ∧ trim M = trim L ∧ M.length ≤ L.length) ?_ (k := L.length) ⟨L, rfl, rfl, rfl, rfl, Nat.le_refl _⟩ (by show L.length < 3000; omega)
  rintro m ρ cs ⟨M, rfl, rfl, rfl, ht, hm⟩
  have e1 : blt .len [.ref 0] [.lst (nums M)] = .ok (.int M.length) [.lst (nums M)] := by
    rw [blt_len_ref (xs := nums M) rfl, nums_len]
  simp only [ev_and, ev_cmp, ev_blt, evs_cons, ev_var, evs_nil, bind_ok, List.getElem?_cons_succ, List.getElem?_cons_zero, fz_ref, e1, ev_int, cop_gt_int]
  rcases eq_snoc M with rfl | ⟨N, a, rfl⟩
  · simp only [nums_nil, List.length_nil, Int.ofNat_zero, Int.lt_irrefl, decide_false, Int.natCast_zero, sat_ok]
    refine sat_cons (sat_ret ?_)
    simp only [ev_blt, evs_cons, ev_var, evs_nil, bind_ok, List.getElem?_cons_succ, List.getElem?_cons_zero, fz_ref]
    rw [blt_tuple_ref (xs := []) rfl, mkTup_ok (by simp)]
    simp only [sat_ok]
    rw [← ht]
    exact handed_tI _ []
  · have e2 : decide ((0 : Int) < ((N ++ [a]).length : Nat)) = true := by simp
    have e3 : nums (N ++ [a]) = nums N ++ [.int a] := by simp [nums]
    simp only [e2, ev_sub, ev_neg, ev_int, bind_ok, ev_var, List.getElem?_cons_succ, List.getElem?_cons_zero, subW, items_ref, cellL_0, e3, at_last, ofO_some, cop_eq_int, sat_ok]
    by_cases ha : a = 0
    · subst ha
      simp only [beq_self_eq_true]
      refine sat_cons (sat_ex ?_)
      simp only [ev_meth, ev_var, List.getElem?_cons_succ, List.getElem?_cons_zero, bind_ok, isCell_ref, cellL_0, Option.isSome_some, if_true, evs_nil, meth]
      simp only [List.length_append, List.length_cons, List.length_nil, Nat.zero_add, Nat.add_sub_cancel, List.dropLast_concat, sat_ok]
      rw [List.getElem?_append_right (Nat.le_refl _)]
      simp only [Nat.sub_self, List.getElem?_cons_zero, sat_ok]
      exact sat_nil ⟨N.length, by simp, N, rfl, rfl, rfl, by rw [← ht, trim_snoc], by simp at hm; omega⟩
    · have : (a == 0) = false := by simpa using ha
      simp only [this]
      refine sat_cons (sat_ret ?_)
      simp only [ev_blt, evs_cons, ev_var, evs_nil, bind_ok, List.getElem?_cons_succ, List.getElem?_cons_zero, fz_ref]
      rw [blt_tuple_ref (xs := nums N ++ [.int a]) rfl, ← e3, mkTup_ok (by rw [nums_len]; omega)]
      simp only [sat_ok]
      rw [← ht, trim_done]
      · exact handed_tI _ _
      · intro r hr
        simp at hr
        subst hr
        exact ha

/-! value_of -/
theorem small {p x : Int} (h : 0 ≤ x) (h2 : x < p) (hp : p ≤ 997) : -big < x ∧ x < big := by
  unfold big; omega
theorem p_value_of (k : Nat) {p : Int} (hp : 1 < p) (hp2 : p ≤ 997) (L : List Int) (x : Int) : P (k + 1) 3 [.int p, tI L, .int x] (.int (V p L x)) := by
  refine P_of at_value_of (by rfl) ?_
  show Sat (runs (OO k) b_value_of [some (.int p), some (tI L), some (.int x), none, none] []) _
  refine sat_cons (sat_set ?_)
  simp only [ev_int, sat_ok, fz_int, List.set_cons_succ, List.set_cons_zero]
  refine sat_cons ?_
  refine sat_for (xs := (nums L).reverse) (by simp) (I := fun R ρ cs => ∃ (f : Int) (o : Option W) (M : List Int), R = nums M ∧ ρ = [some (.int p), some (tI L), some (.int x), some (.int f), o] ∧ cs = [] ∧ 0 ≤ f ∧ f < p ∧ M.foldl (fun f c => (f * x + c) % p) f = V p L x) ?_ ?_ ?_
  · exact ⟨0, none, L.reverse, by simp [nums], rfl, rfl, by omega, by omega, by rw [List.foldl_reverse]; rfl⟩
  · rintro y R ρ cs ⟨f, o, M, hR, rfl, rfl, h0, h1, hM⟩
    cases M with
    | nil => exact nomatch hR
    | cons c M =>
        rw [nums_cons] at hR
        cases hR
        simp only [fz_int, put_nm, List.set_cons_succ, List.set_cons_zero]
        refine sat_cons (sat_set ?_)
        simp only [ev_bin, ev_var, List.getElem?_cons_succ, List.getElem?_cons_zero, bind_ok, bop_mul (.inl (small h0 h1 hp2)), bop_add, bop_mod (show 0 < p by omega), sat_ok, List.set_cons_succ, List.set_cons_zero, fz_int]
        exact sat_nil ⟨(f * x + c) % p, _, M, rfl, rfl, rfl, Int.emod_nonneg _ (by omega), Int.emod_lt_of_pos _ (by omega), hM⟩
  · rintro ρ cs ⟨f, o, M, hR, rfl, rfl, h0, h1, hM⟩
    cases M with
    | cons c M => exact nomatch hR
    | nil =>
        refine sat_cons (sat_ret ?_)
        simp only [ev_var, List.getElem?_cons_succ, List.getElem?_cons_zero, sat_ok]
        rw [← hM]; rfl
end K80
end S_K80e

section S_K80f
set_option Elab.async false
set_option linter.all false
set_option maxRecDepth 100000
/-! K80f: products, polynomials. -/
namespace K80
open Mi Ev Po
theorem getD_set (L : List Int) (j n : Nat) (v : Int) (h : n < L.length) : (L.set n v).getD j 0 = if j = n then v else L.getD j 0 := by
  simp only [List.getD_eq_getElem?_getD, List.getElem?_set]
  by_cases e : n = j
  · subst e; simp [h]
  · rw [if_neg e, if_neg fun q => e q.symm]
theorem is_bound {p : Int} (hp : 0 < p) {L l : List Int} (h : Is p L l) : ∀ x ∈ L, 0 ≤ x ∧ x < p := by
  intro x hx
  obtain ⟨i, hi, e⟩ := List.getElem_of_mem hx
  have := h i
  rw [List.getD_eq_getElem?_getD, List.getElem?_eq_getElem hi, e] at this
  simp only [Option.getD_some] at this
  rw [this]
  exact ⟨Int.emod_nonneg _ (by omega), Int.emod_lt_of_pos _ hp⟩
theorem set_bound {p : Int} {L : List Int} {n : Nat} {v : Int} (h : ∀ x ∈ L, 0 ≤ x ∧ x < p) (hv : 0 ≤ v ∧ v < p) : ∀ x ∈ L.set n v, 0 ≤ x ∧ x < p := by
  intro x hx
  rcases List.mem_or_eq_of_mem_set hx with h1 | rfl
  · exact h x h1
  · exact hv
theorem p_product_of (k : Nat) {p : Int} (hp : 1 < p) (hp2 : p ≤ 997) {A B la lb : List Int} (ha : Is p A la) (hb : Is p B lb) (hl : A.length + B.length < 2000) :
    P (k + 2) 4 [.int p, tI A, tI B] (tI (PL p (lb ++ la))) := by
  refine P_of at_product_of (by rfl) ?_
  show Sat (runs (OO (k + 1)) b_product_of [some (.int p), some (tI A), some (tI B), none, none, none, none, none] []) _
  have hA := is_bound (by omega : (0 : Int) < p) ha
  have hB := is_bound (by omega : (0 : Int) < p) hb
  refine sat_cons (sat_set ?_)
  have e1 : ((A.length : Int) + (B.length : Int)) = ((A.length + B.length : Nat) : Int) := by omega
  have e2 : List.replicate (A.length + B.length) (W.int 0) = nums (List.replicate (A.length + B.length) 0) := by simp [nums]
  simp only [ev_cel, ev_bin, ev_list, evs_cons, evs_nil, ev_int, bind_ok, fz_int, ev_blt, ev_var, List.getElem?_cons_succ, List.getElem?_cons_zero, fz_tup, blt_len_tup, nums_len, bop_add]
  rw [mkNew_ok (by simp)]
  simp only [bind_ok, e1]
  rw [bop_rep (by omega), e2]
  simp only [bind_ok, sat_ok, List.nil_append, List.length_nil, List.set_cons_succ, List.set_cons_zero, fz_ref]
  refine sat_cons ?_
  refine sat_for (xs := enumW 0 (nums A)) (by simp) (I := fun R ρ cs => ∃ (i : Nat) (A' L : List Int) (o4 o5 o6 o7 : Option W), R = enumW i (nums A') ∧ ρ = [some (.int p), some (tI A), some (tI B), some (.ref 0), o4, o5, o6, o7]
    ∧ cs = [.lst (nums L)] ∧ L.length = A.length + B.length ∧ i + A'.length = A.length ∧ (∀ x ∈ A', 0 ≤ x ∧ x < p) ∧ (∀ x ∈ L, 0 ≤ x ∧ x < p) ∧ ∀ j, Eq' p (L.getD j 0 + T A' B i j) (T A B 0 j)) ?_ ?_ ?_
  · refine ⟨0, A, List.replicate (A.length + B.length) 0, none, none, none, none, rfl, rfl, rfl, by simp, by simp, hA, ?_, ?_⟩
    · intro x hx
      rw [List.eq_of_mem_replicate hx]; omega
    · intro j
      refine Eq'.of ?_
      have : (List.replicate (A.length + B.length) (0 : Int)).getD j 0 = 0 := by
        rw [List.getD_eq_getElem?_getD, List.getElem?_replicate]
        split <;> rfl
      rw [this]; simp
  · rintro y R ρ cs ⟨i, A', L, o4, o5, o6, o7, hR, rfl, rfl, hL, hi, hA', hLb, hT⟩
    cases A' with
    | nil => exact nomatch hR
    | cons a A' =>
        rw [nums_cons, enumW] at hR
        cases hR
        simp only [fz_tup, put_tp, putS_cons, putS_nil, List.set_cons_succ, List.set_cons_zero]
        refine sat_cons ?_
        refine sat_for (xs := enumW 0 (nums B)) (by simp) (I := fun R ρ cs => ∃ (q : Nat) (B' L : List Int) (o6 o7 : Option W), R = enumW q (nums B') ∧ ρ = [some (.int p), some (tI A), some (tI B), some (.ref 0), some (.int i), some (.int a), o6, o7]
          ∧ cs = [.lst (nums L)] ∧ L.length = A.length + B.length ∧ q + B'.length = B.length ∧ (∀ x ∈ L, 0 ≤ x ∧ x < p) ∧ ∀ j, Eq' p (L.getD j 0 + U a B' (i + q) j + T A' B (i + 1) j) (T A B 0 j)) ?_ ?_ ?_
        · refine ⟨0, B, L, o6, o7, rfl, rfl, rfl, hL, by simp, hLb, fun j => ?_⟩
          have := hT j
          rw [T] at this
          rw [U_sh, Nat.add_zero, Int.add_assoc]
          exact this
        · rintro y R ρ cs ⟨q, B', L, o6, o7, hR, rfl, rfl, hL, hq, hLb, hU⟩
          cases B' with
          | nil => exact nomatch hR
          | cons b B' =>
              rw [nums_cons, enumW] at hR
              cases hR
              simp only [fz_tup, put_tp, putS_cons, putS_nil, List.set_cons_succ, List.set_cons_zero]
              refine sat_cons (sat_setI ?_)
              simp only [List.length_cons] at hi hq
              have hn : i + q < L.length := by omega
              have e3 : ((i : Int) + (q : Int)) = ((i + q : Nat) : Int) := by omega
              have ha := hA' a (List.mem_cons_self ..)
              have e4 : at? (nums L) ((i : Int) + (q : Int)) = some (.int (L.getD (i + q) 0)) := by rw [e3]; exact at_nat hn
              simp only [ev_bin, ev_sub, ev_var, List.getElem?_cons_succ, List.getElem?_cons_zero, bind_ok, bop_add, subW, items_ref, cellL_0, e4, ofO_some, bop_mul (.inl (small ha.1 ha.2 hp2)), bop_mod (show 0 < p by omega), sat_ok, fz_int]
              rw [e3]
              refine ⟨_, setIdx_nat (cs := [.lst (nums L)]) rfl hn, sat_nil ?_⟩
              refine ⟨q + 1, B', _, _, _, rfl, rfl, rfl, by simpa using hL, by omega, set_bound hLb ⟨Int.emod_nonneg _ (by omega), Int.emod_lt_of_pos _ (by omega)⟩, fun j => ?_⟩
              refine Eq'.trans ?_ (hU j)
              rw [getD_set _ _ _ _ hn, U]
              by_cases hj : j = i + q
              · subst hj
                rw [if_pos rfl, if_pos rfl]
                refine (((Eq'.mod _ _).add Eq'.rfl').add Eq'.rfl').trans (Eq'.of ?_)
                rw [← Nat.add_assoc]
                omega
              · rw [if_neg hj, if_neg hj, Int.zero_add, ← Nat.add_assoc]
                exact Eq'.rfl'
        · rintro ρ cs ⟨q, B', L, o6, o7, hR, rfl, rfl, hL, hq, hLb, hU⟩
          cases B' with
          | cons b B' => exact nomatch hR
          | nil =>
              simp only [List.length_cons] at hi
              refine sat_nil ⟨i + 1, A', L, _, _, _, _, rfl, rfl, rfl, hL, by omega, fun x hx => hA' x (List.mem_cons_of_mem _ hx), hLb, fun j => ?_⟩
              have := hU j
              rw [U, Int.add_zero] at this
              exact this
  · rintro ρ cs ⟨i, A', L, o4, o5, o6, o7, hR, rfl, rfl, hL, hi, hA', hLb, hT⟩
    cases A' with
    | cons a A' => exact nomatch hR
    | nil =>
        refine sat_cons (sat_ret ?_)
        have hIs : Is p L (lb ++ la) := by
          intro j
          have h1 := (hT j).trans (prod_is ha hb j)
          rw [T, Int.add_zero] at h1
          rw [← h1]
          refine (Int.emod_eq_of_lt ?_ ?_).symm
          all_goals
            rw [List.getD_eq_getElem?_getD]
            cases e : L[j]? with
            | none => simp; try omega
            | some x => 
                have := hLb x (List.mem_of_getElem? e)
                simp; omega
        have h2 := p_trimmed k (L := L) (by omega)
        rw [trim_PL hp hIs] at h2
        have e := h2.call (ws := [.ref 0]) (cs := [.lst (nums L)]) (by simp [deref_cell (cs := [.lst (nums L)]) (n := 0) (ns := L) rfl])
        simp only [ev_callP, evs_cons, evs_nil, ev_var, List.getElem?_cons_succ, List.getElem?_cons_zero, bind_ok, fz_ref, e, sat_ok]
        exact handed_tI _ _
end K80
end S_K80f

section S_K80g
set_option Elab.async false
set_option linter.all false
set_option maxRecDepth 100000
/-! K80g: polynomials, zeros, marks. -/
namespace K80
open Mi Ev Po
theorem PL_nil {p : Int} (hp : 1 < p) : PL p [] = [1] := by
  simp [PL, E, Int.emod_eq_of_lt (show (0 : Int) ≤ 1 by decide) hp]
theorem one_is {p : Int} (hp : 1 < p) (n : Int) : Is p [(p - n) % p, 1] [n] := by
  intro j
  match j with
  | 0 =>
      simp only [List.getD_cons_zero, E]
      have : p - n = -n * 1 + p * 1 := by omega
      rw [this, Int.add_mul_emod_self_left]
  | 1 =>
      simp only [List.getD_cons_succ, List.getD_cons_zero, E]
      rw [show (1 : Int) - n * 0 = 1 by omega, Int.emod_eq_of_lt (by decide) hp]
  | j + 2 => simp [E]
theorem p_polynomial_of (k : Nat) {p : Int} (hp : 1 < p) (hp2 : p ≤ 997) {l : List Int} (hl : l.length ≤ 100) : P (k + 3) 5 [.int p, tI l] (tI (PL p l)) := by
  refine P_of at_polynomial_of (by rfl) ?_
  show Sat (runs (OO (k + 2)) b_polynomial_of [some (.int p), some (tI l), none, none] []) _
  refine sat_cons (sat_set ?_)
  simp only [ev_tuple, evs_cons, evs_nil, ev_int, bind_ok, fz_int]
  rw [mkTup_ok (by simp)]
  simp only [sat_ok, List.set_cons_succ, List.set_cons_zero, fz_tup]
  refine sat_cons ?_
  refine sat_for (xs := nums l) (by simp) (I := fun R ρ cs => ∃ (o : Option W) (D M : List Int), R = nums M ∧ ρ = [some (.int p), some (tI l), some (tI (PL p D)), o] ∧ cs = [] ∧ (D ++ M).Perm l) ?_ ?_ ?_
  · exact ⟨none, [], l, rfl, by rw [PL_nil hp]; rfl, rfl, List.Perm.refl _⟩
  · rintro y R ρ cs ⟨o, D, M, hR, rfl, rfl, hM⟩
    cases M with
    | nil => exact nomatch hR
    | cons c M =>
        rw [nums_cons] at hR
        cases hR
        simp only [fz_int, put_nm, List.set_cons_succ, List.set_cons_zero]
        refine sat_cons (sat_set ?_)
        have hD : D.length < 101 := by
          have := hM.length_eq
          simp at this
          omega
        have h := (p_product_of k hp hp2 (PL_is p D) (one_is hp c) (by rw [PL_len]; simp; omega)).call (cs := []) (ws := [.int p, tI (PL p D), tI [(p - c) % p, 1]]) (by simp)
        have e : mkTup [.int ((p - c) % p), .int 1] [] = .ok (tI [(p - c) % p, 1]) [] := mkTup_ok (by simp)
        simp only [ev_callP, ev_tuple, evs_cons, evs_nil, ev_bin, ev_int, ev_var, List.getElem?_cons_succ, List.getElem?_cons_zero, bind_ok, bop_sub, bop_mod (show 0 < p by omega), fz_int, e, fz_tup, h, sat_ok, List.set_cons_succ, List.set_cons_zero]
        refine sat_nil ⟨_, [c] ++ D, M, rfl, rfl, rfl, List.Perm.trans ?_ hM⟩
        simpa using List.perm_middle.symm
  · rintro ρ cs ⟨o, D, M, hR, rfl, rfl, hM⟩
    cases M with
    | cons c M => exact nomatch hR
    | nil =>
        refine sat_cons (sat_ret ?_)
        simp only [ev_var, List.getElem?_cons_succ, List.getElem?_cons_zero, sat_ok]
        rw [List.append_nil] at hM
        rw [PL_perm hM]
        exact handed_tI _ _
theorem range_upto (n : Nat) : rangeI 0 n = nums (upto n) := by
  rw [range_nums]; simp [upto]
theorem nums_filter (f : Int → Bool) (L : List Int) : (nums L).filter (fun w => match w with | .int x => f x | _ => false) = nums (L.filter f) := by
  induction L with
  | nil => rfl
  | cons a L ih =>
      rw [nums_cons, List.filter_cons, List.filter_cons, ih]
      show (if f a = true then _ else _) = nums (if f a = true then _ else _)
      by_cases h : f a = true
      · rw [if_pos h, if_pos h, nums_cons]
      · rw [if_neg h, if_neg h]
theorem p_zeros_of (k : Nat) {p : Int} (hp : 1 < p) (hp2 : p ≤ 997) (L : List Int) : P (k + 2) 6 [.int p, tI L] (tI ((upto p.toNat).filter fun x => decide (V p L x = 0))) := by
  refine P_of at_zeros_of (by rfl) ?_
  show Sat (runs (OO (k + 1)) b_zeros_of [some (.int p), some (tI L), none] []) _
  refine sat_cons (sat_ret ?_)
  have e1 : evI (OO (k + 1)) [some (.int p), some (tI L), none] (.range (.var 0)) [] = .ok (.im (rangeI 0 p.toNat)) [] := by
    simp [rangeW_eq (a := 0) (b := p) rfl (okR_of (by omega) (by omega))]
  have e2 := ev_filter (O := OO (k + 1)) (elt := .var 2) (c := .cmp .eq (.callP 3 (.cons (.var 0) (.cons (.var 1) (.cons (.var 2) .nil)))) (.int 0)) (t := .nm 2) (own := [2]) (fun w => match w with | .int x => decide (V p L x = 0) | _ => false) e1 (by rw [rangeI_len]; omega) (by
    intro x hx
    obtain ⟨i, hi, rfl⟩ := rangeI_mem hx
    refine ⟨_, rfl, ?_, rfl, rfl⟩
    have h := (p_value_of k hp hp2 L (0 + i)).call (cs := []) (ws := [.int p, tI L, .int (0 + i)]) (by simp)
    simp only [wipe_cons, wipe_nil, fz_int, ev_cmp, ev_callP, evs_cons, evs_nil, ev_int, ev_var, List.set_cons_succ, List.set_cons_zero, List.getElem?_cons_succ, List.getElem?_cons_zero, bind_ok, fz_tup, h, cop_eq_int]
    rfl)
  rw [range_upto, nums_filter] at e2
  have e3 : mkTup (nums ((upto p.toNat).filter fun x => decide (V p L x = 0))) [] = .ok (tI ((upto p.toNat).filter fun x => decide (V p L x = 0))) [] := mkTup_ok (by
    rw [nums_len]
    refine Nat.le_trans (List.length_filter_le ..) ?_
    simp [upto]; omega)
  simp only [ev_blt, evs_cons, evs_nil, e2, bind_ok, fz_new, blt_tuple_lst, e3, sat_ok]
  exact handed_tI _ _
theorem mkTup_nums {L : List Int} {cs : List Ob} (h : L.length ≤ 100000) : mkTup (nums L) cs = .ok (tI L) cs := mkTup_ok (by rw [nums_len]; exact h)
theorem mkNew_nums {L : List Int} {cs : List Ob} (h : L.length ≤ 100000) : mkNew (nums L) cs = .ok (.new (nums L)) cs := mkNew_ok (by rw [nums_len]; exact h)
theorem p_value_at (k : Nat) {p : Int} (h : Prim p) {L : List Int} (hl : L.length ≤ 1000) (x : Int) : P (k + 3) 7 [.int p, tI L, .int x] (.int (V p L x)) := by
  refine P_of at_value_at (by rfl) ?_
  show Sat (runs (OO (k + 2)) b_value_at [some (.int p), some (tI L), some (.int x)] []) _
  have h1 := h.lo
  have h2 := h.hi
  have e1 := (p_check_prime k h).call (cs := []) (ws := [.int p]) (by simp)
  have e2 := (p_value_of (k + 1) (by omega : 1 < p) (by omega) L x).call (cs := []) (ws := [.int p, tI L, .int x]) (by simp)
  refine sat_cons (sat_ex ?_)
  simp only [ev_callP, evs_cons, evs_nil, ev_var, List.getElem?_cons_zero, bind_ok, fz_int, e1, sat_ok]
  refine sat_cons (sat_ret ?_)
  simp only [ev_callP, ev_blt, evs_cons, evs_nil, ev_var, List.getElem?_cons_succ, List.getElem?_cons_zero, bind_ok, fz_int, fz_tup, blt_tuple_tup, mkTup_nums (show L.length ≤ 100000 by omega), e2, sat_ok]
  rfl
theorem p_times (k : Nat) {p : Int} (h : Prim p) {A B la lb : List Int} (ha : Is p A la) (hb : Is p B lb) (hl : A.length + B.length < 2000) : P (k + 3) 8 [.int p, tI A, tI B] (tI (PL p (lb ++ la))) := by
  refine P_of at_times (by rfl) ?_
  show Sat (runs (OO (k + 2)) b_times [some (.int p), some (tI A), some (tI B)] []) _
  have h1 := h.lo
  have h2 := h.hi
  have e1 := (p_check_prime k h).call (cs := []) (ws := [.int p]) (by simp)
  have e2 := (p_product_of k (by omega : 1 < p) (by omega) ha hb hl).call (cs := []) (ws := [.int p, tI A, tI B]) (by simp)
  refine sat_cons (sat_ex ?_)
  simp only [ev_callP, evs_cons, evs_nil, ev_var, List.getElem?_cons_zero, bind_ok, fz_int, e1, sat_ok]
  refine sat_cons (sat_ret ?_)
  simp only [ev_callP, ev_blt, evs_cons, evs_nil, ev_var, List.getElem?_cons_succ, List.getElem?_cons_zero, bind_ok, fz_int, fz_tup, blt_tuple_tup, mkTup_nums (show A.length ≤ 100000 by omega), mkTup_nums (show B.length ≤ 100000 by omega), e2, sat_ok]
  exact handed_tI _ _
theorem p_with_roots (k : Nat) {p : Int} (h : Prim p) {l : List Int} (hl : l.length ≤ 100) : P (k + 4) 9 [.int p, tI l] (tI (PL p l)) := by
  refine P_of at_with_roots (by rfl) ?_
  show Sat (runs (OO (k + 3)) b_with_roots [some (.int p), some (tI l)] []) _
  have h1 := h.lo
  have h2 := h.hi
  have e1 := (p_check_prime (k + 1) h).call (cs := []) (ws := [.int p]) (by simp)
  have e2 := (p_polynomial_of k (by omega : 1 < p) (by omega) hl).call (cs := []) (ws := [.int p, tI l]) (by simp)
  refine sat_cons (sat_ex ?_)
  simp only [ev_callP, evs_cons, evs_nil, ev_var, List.getElem?_cons_zero, bind_ok, fz_int, e1, sat_ok]
  refine sat_cons (sat_ret ?_)
  simp only [ev_callP, ev_blt, evs_cons, evs_nil, ev_var, List.getElem?_cons_succ, List.getElem?_cons_zero, bind_ok, fz_int, fz_tup, e2, sat_ok]
  exact handed_tI _ _
theorem p_roots_of (k : Nat) {p : Int} (h : Prim p) {L : List Int} (hl : L.length ≤ 1000) : P (k + 3) 10 [.int p, tI L] (tI ((upto p.toNat).filter fun x => decide (V p L x = 0))) := by
  refine P_of at_roots_of (by rfl) ?_
  show Sat (runs (OO (k + 2)) b_roots_of [some (.int p), some (tI L)] []) _
  have h1 := h.lo
  have h2 := h.hi
  have e1 := (p_check_prime k h).call (cs := []) (ws := [.int p]) (by simp)
  have e2 := (p_zeros_of k (by omega : 1 < p) (by omega) L).call (cs := []) (ws := [.int p, tI L]) (by simp)
  refine sat_cons (sat_ex ?_)
  simp only [ev_callP, evs_cons, evs_nil, ev_var, List.getElem?_cons_zero, bind_ok, fz_int, e1, sat_ok]
  refine sat_cons (sat_ret ?_)
  simp only [ev_callP, ev_blt, evs_cons, evs_nil, ev_var, List.getElem?_cons_succ, List.getElem?_cons_zero, bind_ok, fz_int, fz_tup, blt_tuple_tup, mkTup_nums (show L.length ≤ 100000 by omega), e2, sat_ok]
  exact handed_tI _ _
theorem p_check_number (k : Nat) {v l m : Int} (h1 : l ≤ v) (h2 : v ≤ m) : P (k + 2) 11 [.int v, .int l, .int m] .non := by
  refine P_of at_check_number (by rfl) ?_
  show Sat (runs (OO (k + 1)) b_check_number [some (.int v), some (.int l), some (.int m)] []) _
  have e1 := (p_is_from_to k v l m).call (cs := []) (ws := [.int v, .int l, .int m]) (by simp)
  refine sat_cons (sat_if ?_)
  simp only [ev_not, ev_callP, evs_cons, evs_nil, ev_var, List.getElem?_cons_succ, List.getElem?_cons_zero, bind_ok, fz_int, e1, truth_bl, h1, h2, decide_true, Bool.and_true, Bool.not_true, sat_ok]
  refine sat_nil ?_
  refine sat_nil ?_
  trivial
theorem p_is_rising (k : Nat) {l : List Int} {m : Int} (hl : ∀ n ∈ l, 0 ≤ n ∧ n ≤ m) (hu : Up l) : P (k + 2) 12 [tI l, .int m] (.bl true) := by
  refine P_of at_is_rising (by rfl) ?_
  show Sat (runs (OO (k + 1)) b_is_rising [some (tI l), some (.int m), none, none] []) _
  refine sat_cons (sat_if ?_)
  simp only [ev_not, ev_isi, ev_var, List.getElem?_cons_zero, bind_ok, isi_tup_tuple, truth_bl, Bool.not_true, sat_ok]
  refine sat_nil ?_
  refine sat_cons (sat_set ?_)
  simp only [ev_int, sat_ok, List.set_cons_succ, List.set_cons_zero, fz_int]
  refine sat_cons ?_
  refine sat_for (xs := nums l) (by simp) (I := fun R ρ cs => ∃ (o : Option W) (M : List Int) (a : Int), R = nums M ∧ ρ = [some (tI l), some (.int m), some (.int a), o] ∧ cs = [] ∧ (∀ n ∈ M, a ≤ n ∧ n ≤ m) ∧ Up M) ?_ ?_ ?_
  · exact ⟨none, l, 0, rfl, rfl, rfl, hl, hu⟩
  · rintro y R ρ cs ⟨o, M, a, hR, rfl, rfl, hM, hU⟩
    cases M with
    | nil => exact nomatch hR
    | cons c M =>
        rw [nums_cons] at hR
        cases hR
        simp only [fz_int, put_nm, List.set_cons_succ, List.set_cons_zero]
        have hc := hM c (List.mem_cons_self ..)
        have e1 := (p_is_from_to k c a m).call (cs := []) (ws := [.int c, .int a, .int m]) (by simp)
        unfold Up at hU
        rw [List.pairwise_cons] at hU
        refine sat_cons (sat_if ?_)
        simp only [ev_not, ev_callP, evs_cons, evs_nil, ev_var, List.getElem?_cons_succ, List.getElem?_cons_zero, bind_ok, fz_int, e1, truth_bl, hc.1, hc.2, decide_true, Bool.and_true, Bool.not_true, sat_ok]
        refine sat_nil ?_
        refine sat_cons (sat_set ?_)
        simp only [ev_bin, ev_int, ev_var, List.getElem?_cons_succ, List.getElem?_cons_zero, bind_ok, bop_add, fz_int, sat_ok, List.set_cons_succ, List.set_cons_zero]
        refine sat_nil ⟨_, M, c + 1, rfl, rfl, rfl, fun n hn => ?_, hU.2⟩
        have := hU.1 n hn
        have := hM n (List.mem_cons_of_mem _ hn)
        omega
  · rintro ρ cs ⟨o, M, a, hR, rfl, rfl, hM, hU⟩
    refine sat_cons (sat_ret ?_)
    simp only [ev_bl, sat_ok]
    rfl
/-- a lot of numbers that marks takes -/
structure Lot (p : Int) (l : List Int) : Prop where
  up : Up l
  lo : ∀ n ∈ l, 0 ≤ n ∧ n ≤ p - 13
  few : l.length ≤ 60
theorem p_check_numbers (k : Nat) {p : Int} {l : List Int} (h : Lot p l) : P (k + 3) 13 [.int p, tI l] .non := by
  refine P_of at_check_numbers (by rfl) ?_
  show Sat (runs (OO (k + 2)) b_check_numbers [some (.int p), some (tI l)] []) _
  have e1 := (p_is_rising k (m := p - 12 - 1) (fun n hn => by have := h.lo n hn; omega) h.up).call (cs := []) (ws := [tI l, .int (p - 12 - 1)]) (by simp)
  have e2 : decide ((60 : Int) < (l.length : Int)) = false := by
    have := h.few
    simp; omega
  refine sat_cons (sat_if ?_)
  simp only [ev_or, ev_not, ev_cmp, ev_blt, ev_bin, ev_int, ev_glob, glob3, glob4, ofO_some, ev_callP, evs_cons, evs_nil, ev_var, List.getElem?_cons_succ, List.getElem?_cons_zero, bind_ok, bop_sub, fz_int, fz_tup, e1, truth_bl, Bool.not_true, blt_len_tup, nums_len, cop_gt_int, e2, sat_ok]
  refine sat_nil ?_
  refine sat_nil ?_
  trivial
/-- the marks, as the program tells them -/
def marksL (p : Int) (l : List Int) (m : Nat) : List Int := (List.range m).map fun (i : Nat) => pv l (p - (1 + i)) % p
theorem p_marks_of (k : Nat) {p : Int} (hp : 1 < p) (hp2 : p ≤ 997) {l : List Int} (hl : l.length ≤ 100) {m : Nat} (hm : m ≤ 12) : P (k + 4) 14 [.int p, tI l, .int m] (tI (marksL p l m)) := by
  refine P_of at_marks_of (by rfl) ?_
  show Sat (runs (OO (k + 3)) b_marks_of [some (.int p), some (tI l), some (.int m), none, none] []) _
  have e1 := (p_polynomial_of k hp hp2 hl).call (cs := []) (ws := [.int p, tI l]) (by simp)
  refine sat_cons (sat_set ?_)
  simp only [ev_callP, evs_cons, evs_nil, ev_var, List.getElem?_cons_succ, List.getElem?_cons_zero, bind_ok, fz_int, fz_tup, e1, sat_ok, List.set_cons_succ, List.set_cons_zero]
  refine sat_cons (sat_ret ?_)
  have e2 : evI (OO (k + 3)) [some (.int p), some (tI l), some (.int m), some (tI (PL p l)), none] (.range2 (.int 1) (.bin .add (.var 2) (.int 1))) [] = .ok (.im (rangeI 1 m)) [] := by
    have : ((m : Int) + 1 - 1).toNat = m := by omega
    simp [rangeW_eq (a := 1) (b := (m : Int) + 1) rfl (okR_of (by omega) (by omega))]
  have e3 := ev_map (O := OO (k + 3)) (elt := .callP 3 (.cons (.var 0) (.cons (.var 3) (.cons (.bin .sub (.var 0) (.var 4)) .nil)))) (t := .nm 4) (own := [4]) (fun w => match w with | .int x => .int (pv l (p - x) % p) | _ => .non) e2 (by rw [rangeI_len]; omega) (by
    intro x hx
    obtain ⟨i, hi, rfl⟩ := rangeI_mem hx
    have h := (p_value_of (k + 2) hp hp2 (PL p l) (p - (1 + i))).call (cs := []) (ws := [.int p, tI (PL p l), .int (p - (1 + i))]) (by simp)
    rw [V_PL] at h
    refine ⟨_, .int (pv l (p - (1 + i)) % p), rfl, ?_, rfl⟩
    simp only [wipe_cons, wipe_nil, fz_int, ev_callP, ev_bin, bop_sub, evs_cons, evs_nil, ev_int, ev_var, List.set_cons_succ, List.set_cons_zero, List.getElem?_cons_succ, List.getElem?_cons_zero, bind_ok, fz_tup, h])
  have e4 : ((rangeI 1 m).map fun w => match w with | .int x => W.int (pv l (p - x) % p) | _ => .non) = nums (marksL p l m) := by
    simp [rangeI, marksL, nums]
  rw [e4] at e3
  simp only [ev_blt, evs_cons, evs_nil, e3, bind_ok, fz_new, blt_tuple_lst, mkTup_nums (L := marksL p l m) (by simp [marksL]; omega), sat_ok]
  exact handed_tI _ _
theorem p_marks (k : Nat) {p : Int} (h : Prim p) {l : List Int} (hl : Lot p l) {m : Nat} (hm : m ≤ 12) : P (k + 5) 15 [.int p, tI l, .int m] (tI (marksL p l m)) := by
  refine P_of at_marks (by rfl) ?_
  show Sat (runs (OO (k + 4)) b_marks [some (.int p), some (tI l), some (.int m)] []) _
  have h1 := h.lo
  have h2 := h.hi
  have h3 := hl.few
  have e1 := (p_check_prime (k + 2) h).call (cs := []) (ws := [.int p]) (by simp)
  have e2 := (p_check_numbers (k + 1) hl).call (cs := []) (ws := [.int p, tI l]) (by simp)
  have e3 := (p_check_number (k + 2) (v := m) (l := 0) (m := 12) (by omega) (by omega)).call (cs := []) (ws := [.int m, .int 0, .int 12]) (by simp)
  have e4 := (p_marks_of k (by omega : 1 < p) h2 (l := l) (by omega) hm).call (cs := []) (ws := [.int p, tI l, .int m]) (by simp)
  refine sat_cons (sat_ex ?_)
  simp only [ev_callP, evs_cons, evs_nil, ev_var, List.getElem?_cons_zero, bind_ok, fz_int, e1, sat_ok]
  refine sat_cons (sat_ex ?_)
  simp only [ev_callP, evs_cons, evs_nil, ev_var, List.getElem?_cons_zero, List.getElem?_cons_succ, bind_ok, fz_int, fz_tup, e2, sat_ok]
  refine sat_cons (sat_ex ?_)
  simp only [ev_callP, evs_cons, evs_nil, ev_var, ev_int, ev_glob, glob3, ofO_some, List.getElem?_cons_zero, List.getElem?_cons_succ, bind_ok, fz_int, fz_tup, e3, sat_ok]
  refine sat_cons (sat_ret ?_)
  simp only [ev_callP, evs_cons, evs_nil, ev_var, List.getElem?_cons_succ, List.getElem?_cons_zero, bind_ok, fz_int, fz_tup, e4, sat_ok]
  exact handed_tI _ _
end K80
end S_K80g

section S_K80l
set_option Elab.async false
set_option linter.all false
set_option maxRecDepth 100000
/-! K80l: the law's own functions without draws. -/
namespace K80
open Mi Ev Po
theorem p_same_int (k : Nat) (n : Int) : P (k + 1) 18 [.int n, .int n] (.bl true) := by
  refine P_of at_law_same (by rfl) ?_
  show Sat (runs (OO k) b_law_same [some (.int n), some (.int n), none] []) _
  refine sat_cons (sat_if ?_)
  simp only [ev_cmp, ev_var, ev_non, List.getElem?_cons_succ, List.getElem?_cons_zero, bind_ok, isN_int, sat_ok]
  refine sat_nil ?_
  refine sat_cons (sat_if ?_)
  simp only [ev_isi, ev_var, List.getElem?_cons_succ, List.getElem?_cons_zero, bind_ok, isi_bool, sat_ok]
  refine sat_nil ?_
  refine sat_cons (sat_if ?_)
  simp only [ev_isi, ev_var, List.getElem?_cons_succ, List.getElem?_cons_zero, bind_ok, isi_int, sat_ok]
  refine sat_cons (sat_ret ?_)
  simp only [ev_isi, ev_and, ev_not, ev_cmp, ev_var, List.getElem?_cons_succ, List.getElem?_cons_zero, bind_ok, isi_int, isi_bool, truth_bl, Bool.not_false, cop_eq_int, beq_self_eq_true, sat_ok]
  rfl
theorem p_same (k : Nat) {L : List Int} (hl : L.length ≤ 1000) : P (k + 2) 18 [tI L, tI L] (.bl true) := by
  refine P_of at_law_same (by rfl) ?_
  show Sat (runs (OO (k + 1)) b_law_same [some (tI L), some (tI L), none] []) _
  refine sat_cons (sat_if ?_)
  simp only [ev_cmp, ev_var, ev_non, List.getElem?_cons_succ, List.getElem?_cons_zero, bind_ok, isN_tup, sat_ok]
  refine sat_nil ?_
  refine sat_cons (sat_if ?_)
  simp only [ev_isi, ev_var, List.getElem?_cons_succ, List.getElem?_cons_zero, bind_ok, isi_tup_bool, sat_ok]
  refine sat_nil ?_
  refine sat_cons (sat_if ?_)
  simp only [ev_isi, ev_var, List.getElem?_cons_succ, List.getElem?_cons_zero, bind_ok, isi_tup_int, sat_ok]
  refine sat_nil ?_
  refine sat_cons (sat_if ?_)
  simp only [ev_isi, ev_var, List.getElem?_cons_succ, List.getElem?_cons_zero, bind_ok, isi_tup_str, sat_ok]
  refine sat_nil ?_
  refine sat_cons (sat_if ?_)
  simp only [ev_or, ev_not, ev_cmp, ev_blt, evs_cons, evs_nil, ev_isi, ev_var, List.getElem?_cons_succ, List.getElem?_cons_zero, bind_ok, isi_tup_tuple, truth_bl, Bool.not_true, fz_tup, blt_len_tup, nums_len, cop_ne_int, beq_self_eq_true, sat_ok]
  refine sat_nil ?_
  refine sat_cons (sat_ret ?_)
  have e1 : evI (OO (k + 1)) [some (tI L), some (tI L), none] (.range (.blt .len (.cons (.var 1) .nil))) [] = .ok (.im (rangeI 0 L.length)) [] := by
    simp [rangeW_eq (a := 0) (b := (L.length : Int)) rfl (okR_of (by omega) (by omega))]
  have e2 := ev_map (O := OO (k + 1)) (elt := .callP 18 (.cons (.sub (.var 0) (.var 2)) (.cons (.sub (.var 1) (.var 2)) .nil))) (t := .nm 2) (own := [2]) (fun x => .bl true) e1 (by rw [rangeI_len]; omega) (by
    intro x hx
    obtain ⟨i, hi, rfl⟩ := rangeI_mem hx
    refine ⟨_, .bl true, rfl, ?_, rfl⟩
    have h := (p_same_int k (L.getD i 0)).call (cs := []) (ws := [.int (L.getD i 0), .int (L.getD i 0)]) (by simp)
    simp only [wipe_cons, wipe_nil, fz_int, Int.zero_add, ev_callP, ev_sub, evs_cons, evs_nil, ev_int, ev_var, List.set_cons_succ, List.set_cons_zero, List.getElem?_cons_succ, List.getElem?_cons_zero, bind_ok, fz_tup, subW, items_tup, at_nat hi, ofO_some, h])
  have e3 : blt .all [.lst ((rangeI 0 L.length).map fun x => W.bl true)] [] = .ok (.bl true) [] := by
    have := blt_all (cs := []) (bs := (rangeI 0 L.length).map fun x => true)
    rw [List.map_map] at this
    refine Eq.trans this ?_
    have q : ((rangeI 0 L.length).map fun x => true).all id = true := by simp
    rw [q]
  simp only [ev_blt, evs_cons, evs_nil, e2, bind_ok, fz_new, e3, sat_ok]
  rfl
theorem cast_mod (m i : Nat) : (m : Int) % (2 + (i : Int)) = 0 ↔ m % (2 + i) = 0 := by
  rw [show (2 : Int) + i = ((2 + i : Nat) : Int) by omega, ← Int.natCast_emod]
  exact Int.ofNat_eq_zero
theorem rangeI_succ (lo : Int) (m : Nat) : rangeI lo (m + 1) = .int lo :: rangeI (lo + 1) m := by
  simp only [rangeI, List.range_succ_eq_map, List.map_cons, List.map_map]
  refine congr (congrArg _ (by simp)) (List.map_congr_left fun a _ => ?_)
  show W.int (lo + ((a + 1 : Nat) : Int)) = W.int (lo + 1 + (a : Int))
  rw [show lo + ((a + 1 : Nat) : Int) = lo + 1 + (a : Int) by omega]
/-! the law's prime -/
def tr (s : Nat) : Bool := (List.range (min 32 s - 2)).all fun i => decide (s % (2 + i) ≠ 0)
def fnd : Nat → Nat → Option Nat
  | 0, _ => none
  | n + 1, s => if tr s then some s else fnd n (s + 1)
theorem fnd_all : ((List.range 981).all fun i => match fnd 25 (i + 17) with
    | some q => decide (q ≤ 997)
    | none => false) = true := by decide +kernel
theorem fnd_le : ∀ {n s q : Nat}, fnd n s = some q → tr q = true ∧ s ≤ q
  | 0, _, _, h => nomatch h
  | n + 1, s, q, h => by
      rw [fnd] at h
      by_cases c : tr s = true
      · rw [if_pos c] at h
        cases h
        exact ⟨c, Nat.le_refl _⟩
      · rw [if_neg c] at h
        obtain ⟨a, b⟩ := fnd_le h
        exact ⟨a, by omega⟩
theorem fnd_ok {s : Nat} (h1 : 17 ≤ s) (h2 : s ≤ 997) : ∃ q, fnd 25 s = some q ∧ q ≤ 997 := by
  have h := List.all_eq_true.mp fnd_all (s - 17) (by rw [List.mem_range]; omega)
  rw [show s - 17 + 17 = s by omega] at h
  cases e : fnd 25 s with
  | none => rw [e] at h; exact nomatch h
  | some q => rw [e] at h; exact ⟨q, rfl, of_decide_eq_true h⟩
theorem tr_pr {q : Nat} (h1 : 17 ≤ q) (h2 : q ≤ 997) (h : tr q = true) : Prim q := by
  refine ⟨by omega, by omega, by omega, ?_⟩
  intro d hd hd2 e
  obtain ⟨n, rfl⟩ : ∃ n : Nat, d = n := ⟨d.toNat, by omega⟩
  have e' : q % n = 0 := by omega
  obtain ⟨m, hm⟩ := Nat.dvd_of_mod_eq_zero e'
  have key : ∀ x : Nat, 2 ≤ x → x < 32 → x < q → q % x ≠ 0 := by
    intro x h3 h4 h5
    have := List.all_eq_true.mp h (x - 2) (by rw [List.mem_range]; omega)
    rw [show 2 + (x - 2) = x by omega] at this
    exact of_decide_eq_true this
  by_cases c : n < 32
  · exact key n (by omega) c (by omega) e'
  · have c2 : m < 32 := by
      apply Classical.byContradiction
      intro hn
      have : 32 * 32 ≤ n * m := Nat.mul_le_mul (by omega) (by omega)
      omega
    have c3 : 2 ≤ m := by
      apply Classical.byContradiction
      intro hn
      have : m = 0 ∨ m = 1 := by omega
      rcases this with rfl | rfl
      · simp at hm; omega
      · simp at hm; omega
    refine key m c3 c2 (by omega) ?_
    rw [hm, Nat.mul_mod_left]
theorem p_law_prime (k : Nat) {s : Int} (h1 : 17 ≤ s) (h2 : s ≤ 997) : ∃ q : Int, Prim q ∧ P (k + 1) 19 [.int s] (.int q) := by
  obtain ⟨n, rfl⟩ : ∃ n : Nat, s = n := ⟨s.toNat, by omega⟩
  obtain ⟨q, hq, hq2⟩ := fnd_ok (s := n) (by omega) (by omega)
  obtain ⟨hq3, hq4⟩ := fnd_le hq
  refine ⟨q, tr_pr (by omega) hq2 hq3, ?_⟩
  refine P_of at_law_prime (by rfl) ?_
  show Sat (runs (OO k) b_law_prime [some (.int n), none, none] []) _
  have hr : rangeI 0 25 = (List.range 25).map fun (i : Nat) => W.int (0 + (i : Int)) := rfl
  refine sat_cons ?_
  refine sat_for (xs := rangeI 0 25) (by simp only [evI_range, ev_int, bind_ok]; rfl) (I := fun R ρ cs => ∃ (m : Nat) (o : Option W), ρ = [some (.int m), o, none] ∧ cs = [] ∧ fnd R.length m = some q ∧ 17 ≤ m) ?_ ?_ ?_
  · exact ⟨n, none, rfl, rfl, by rw [rangeI_len]; exact hq, by omega⟩
  · rintro y R ρ cs ⟨m, o, rfl, rfl, hf, hm⟩
    rw [List.length_cons, fnd] at hf
    have hmq : m ≤ q := by
      by_cases c : tr m = true
      · rw [if_pos c] at hf; cases hf; exact Nat.le_refl _
      · rw [if_neg c] at hf; have := (fnd_le hf).2; omega
    simp only [put_nm, List.set_cons_succ, List.set_cons_zero]
    refine sat_cons (sat_if ?_)
    have e1 : evI (OO k) [some (.int m), some (fz y), none] (.range2 (.int 2) (.blt .min2 (.cons (.int 32) (.cons (.var 0) .nil)))) [] = .ok (.im (rangeI 2 (min 32 m - 2))) [] := by
      have e0 : (if (m : Int) < 32 then (m : Int) else 32) = ((min 32 m : Nat) : Int) := by split <;> omega
      simp only [evI_range2, ev_int, bind_ok, ev_blt, evs_cons, evs_nil, ev_var, List.getElem?_cons_zero, fz_int, blt_min2, e0]
      rw [rangeW_eq rfl (okR_of (by omega) (by omega))]
      simp only []
      congr 3
      omega
    have e2 := ev_filter (O := OO k) (elt := .var 2) (c := .cmp .eq (.bin .mod (.blt .int (.cons (.var 0) .nil)) (.var 2)) (.int 0)) (t := .nm 2) (own := [2]) (fun w => match w with | .int x => decide ((m : Int) % x = 0) | _ => false) e1 (by rw [rangeI_len]; omega) (by
      intro x hx
      obtain ⟨i, hi, rfl⟩ := rangeI_mem hx
      refine ⟨_, rfl, ?_, rfl, rfl⟩
      simp only [wipe_cons, wipe_nil, fz_int, ev_cmp, ev_bin, ev_blt, evs_cons, evs_nil, ev_int, ev_var, List.set_cons_succ, List.set_cons_zero, List.getElem?_cons_succ, List.getElem?_cons_zero, bind_ok, blt_int, bop_mod (show (0 : Int) < 2 + i by omega), cop_eq_int]
      rfl)
    have e3 : ((rangeI 2 (min 32 m - 2)).filter (fun w => match w with | .int x => decide ((m : Int) % x = 0) | _ => false)).length = 0 ↔ tr m = true := by
      rw [List.length_eq_zero_iff, List.filter_eq_nil_iff, tr, List.all_eq_true]
      constructor
      · intro h i hi
        rw [List.mem_range] at hi
        have := h (.int (2 + i)) (by simp only [rangeI, List.mem_map, List.mem_range]; exact ⟨i, hi, rfl⟩)
        simp only [decide_eq_true_eq] at this ⊢
        rwa [cast_mod] at this
      · intro h x hx
        obtain ⟨i, hi, rfl⟩ := rangeI_mem hx
        have := h i (by rw [List.mem_range]; exact hi)
        simp only [decide_eq_true_eq] at this ⊢
        rwa [cast_mod]
    simp only [ev_cmp, ev_blt, evs_cons, evs_nil, e2, bind_ok, fz_new, blt_len_lst, ev_int, cop_eq_int, sat_ok]
    by_cases c : tr m = true
    · rw [if_pos c] at hf
      cases hf
      rw [e3.mpr c]
      refine sat_cons (sat_ret ?_)
      simp only [ev_var, List.getElem?_cons_zero, sat_ok]
      rfl
    · rw [if_neg c] at hf
      have : (((((rangeI 2 (min 32 m - 2)).filter (fun w => match w with | .int x => decide ((m : Int) % x = 0) | _ => false)).length : Nat) : Int) == 0) = false := by
        have := fun z => c (e3.mp z)
        simp only [beq_eq_false_iff_ne, ne_eq]
        exact fun z => this (Int.ofNat_eq_zero.mp z)
      rw [this]
      refine sat_nil ?_
      refine sat_cons (sat_set ?_)
      simp only [ev_bin, ev_int, ev_var, List.getElem?_cons_succ, List.getElem?_cons_zero, bind_ok, bop_add, fz_int, sat_ok, List.set_cons_succ, List.set_cons_zero]
      exact sat_nil ⟨m + 1, _, rfl, rfl, hf, by omega⟩
  · rintro ρ cs ⟨m, o, rfl, rfl, hf, hm⟩
    exact nomatch hf
/-! the law's marks and polynomials -/
theorem p_law_marks (k : Nat) {p : Int} (hp : 1 < p) (hp2 : p ≤ 997) (l : List Int) : P (k + 1) 21 [.int p, tI l, .int 12] (tI (marksL p l 12)) := by
  refine P_of at_law_marks (by rfl) ?_
  show Sat (runs (OO k) b_law_marks [some (.int p), some (tI l), some (.int 12), none, none, none, none] []) _
  refine sat_cons (sat_set ?_)
  simp only [ev_cel, ev_list, evs_nil, bind_ok]
  rw [mkNew_ok (by simp)]
  simp only [bind_ok, sat_ok, List.set_cons_succ, List.set_cons_zero, List.nil_append, List.length_nil, fz_ref]
  refine sat_cons ?_
  refine sat_for (xs := rangeI 0 12) (by simp only [evI_range, ev_var, List.getElem?_cons_succ, List.getElem?_cons_zero, bind_ok]; rfl) (I := fun R ρ cs => ∃ (i m : Nat) (o4 o5 o6 : Option W), i + m = 12 ∧ R = rangeI i m ∧ ρ = [some (.int p), some (tI l), some (.int 12), some (.ref 0), o4, o5, o6] ∧ cs = [.lst (nums (marksL p l i))]) ?_ ?_ ?_
  · exact ⟨0, 12, none, none, none, rfl, rfl, rfl, rfl⟩
  · rintro y R ρ cs ⟨i, m, o4, o5, o6, him, hR, rfl, rfl⟩
    cases m with
    | zero => exact nomatch hR
    | succ m =>
        have hs : rangeI i (m + 1) = .int i :: rangeI (i + 1 : Nat) m := rangeI_succ _ _
        rw [hs] at hR
        cases hR
        simp only [fz_int, put_nm, List.set_cons_succ, List.set_cons_zero]
        refine sat_cons (sat_set ?_)
        simp only [ev_int, sat_ok, List.set_cons_succ, List.set_cons_zero, fz_int]
        refine sat_cons ?_
        refine sat_for (xs := nums l) (by simp) (I := fun R ρ cs => ∃ (M : List Int) (a : Int) (o6 : Option W), R = nums M ∧ 0 ≤ a ∧ a < p ∧ mk p (p - 1 - i) M a = pv l (p - 1 - i) % p ∧ ρ = [some (.int p), some (tI l), some (.int 12), some (.ref 0), some (.int i), some (.int a), o6] ∧ cs = [.lst (nums (marksL p l i))]) ?_ ?_ ?_
        · exact ⟨l, 1, o6, rfl, by decide, hp, mk_eq hp l, rfl, rfl⟩
        · rintro y R ρ cs ⟨M, a, o6, hR, h0, h1, hM, rfl, rfl⟩
          cases M with
          | nil => exact nomatch hR
          | cons c M =>
              rw [nums_cons] at hR
              cases hR
              simp only [fz_int, put_nm, List.set_cons_succ, List.set_cons_zero]
              refine sat_cons (sat_set ?_)
              simp only [ev_bin, ev_int, ev_var, List.getElem?_cons_succ, List.getElem?_cons_zero, bind_ok, bop_sub, bop_mul (.inl (small h0 h1 hp2)), bop_mod (show 0 < p by omega), fz_int, sat_ok, List.set_cons_succ, List.set_cons_zero]
              exact sat_nil ⟨M, _, _, rfl, Int.emod_nonneg _ (by omega), Int.emod_lt_of_pos _ (by omega), hM, rfl, rfl⟩
        · rintro ρ cs ⟨M, a, o6, hR, h0, h1, hM, rfl, rfl⟩
          cases M with
          | cons c M => exact nomatch hR
          | nil =>
              refine sat_cons (sat_ex ?_)
              have e1 : meth .append (.ref 0) [.int a] [.lst (nums (marksL p l i))] = .ok .non [.lst (nums (marksL p l i) ++ [.int a])] := by
                simp only [meth, cellL_0]
                rw [if_pos]
                · rfl
                · show (nums (marksL p l i)).length < 100000
                  simp [marksL]; omega
              simp only [ev_meth, ev_var, List.getElem?_cons_succ, List.getElem?_cons_zero, bind_ok, isCell_ref, cellL_0, Option.isSome_some, if_true, evs_cons, evs_nil, fz_int, e1, sat_ok]
              refine sat_nil ⟨i + 1, m, _, _, _, by omega, rfl, rfl, ?_⟩
              have : pv l (p - (1 + (i : Int))) % p = a := by
                rw [show p - (1 + (i : Int)) = p - 1 - i by omega, ← hM]; rfl
              simp [marksL, List.range_succ, nums, this]
  · rintro ρ cs ⟨i, m, o4, o5, o6, him, hR, rfl, rfl⟩
    cases m with
    | succ m => rw [rangeI_succ] at hR; exact nomatch hR
    | zero =>
        refine sat_cons (sat_ret ?_)
        have : i = 12 := by omega
        subst this
        simp only [ev_blt, evs_cons, evs_nil, ev_var, List.getElem?_cons_succ, List.getElem?_cons_zero, bind_ok, fz_ref]
        rw [blt_tuple_ref rfl, mkTup_nums (by simp [marksL])]
        simp only [sat_ok]
        exact handed_tI _ _
end K80
end S_K80l

section S_K80p
set_option Elab.async false
set_option linter.all false
set_option maxRecDepth 100000
/-! K80p: the law's polynomials; a lot is right. -/
namespace K80
open Mi Ev Po
theorem getD_nums {L : List Int} {i : Nat} (h : i < L.length) : (nums L)[i]? = some (.int (L.getD i 0)) := by
  rw [nums_get, List.getElem?_eq_getElem h, List.getD_eq_getElem?_getD, List.getElem?_eq_getElem h]; rfl
theorem p_law_poly (k : Nat) {p : Int} (hp : 1 < p) (hp2 : p ≤ 997) {l : List Int} (hl : l.length ≤ 100) : P (k + 1) 22 [.int p, tI l] (tI (PL p l)) := by
  refine P_of at_law_poly (by rfl) ?_
  show Sat (runs (OO k) b_law_poly [some (.int p), some (tI l), none, none, none, none, none] []) _
  refine sat_cons (sat_set ?_)
  simp only [ev_list, evs_cons, evs_nil, ev_int, bind_ok, fz_int]
  rw [mkNew_ok (by simp)]
  simp only [sat_ok, List.set_cons_succ, List.set_cons_zero, fz_new]
  refine sat_cons ?_
  refine sat_for (xs := nums l) (by simp) (I := fun R ρ cs => ∃ (D M : List Int) (o3 o4 o5 : Option W), R = nums M ∧ ρ = [some (.int p), some (tI l), some (.lst (nums (PL p D))), o3, o4, o5, none] ∧ cs = [] ∧ (D ++ M).Perm l) ?_ ?_ ?_
  · exact ⟨[], l, none, none, none, rfl, by rw [PL_nil hp]; rfl, rfl, List.Perm.refl _⟩
  · rintro y R ρ cs ⟨D, M, o3, o4, o5, hR, rfl, rfl, hM⟩
    cases M with
    | nil => exact nomatch hR
    | cons c M =>
        rw [nums_cons] at hR
        cases hR
        have hD : D.length < 101 := by
          have := hM.length_eq
          simp at this
          omega
        have hU : (PL p D).length = D.length + 1 := PL_len p D
        simp only [fz_int, put_nm, List.set_cons_succ, List.set_cons_zero]
        refine sat_cons (sat_set ?_)
        have e1 : bop .add (.new [.int 0]) (.lst (nums (PL p D))) [] = .ok (.new (nums (0 :: PL p D))) [] := by
          show mkNew ([.int 0] ++ nums (PL p D)) [] = _
          exact mkNew_nums (L := 0 :: PL p D) (by rw [List.length_cons]; omega)
        have e2 : bop .add (.lst (nums (PL p D))) (.new [.int 0]) [] = .ok (.new (nums (PL p D ++ [0]))) [] := by
          show mkNew (nums (PL p D) ++ [.int 0]) [] = _
          rw [show nums (PL p D) ++ [.int 0] = nums (PL p D ++ [0]) by simp [nums]]
          exact mkNew_nums (by simp; omega)
        have e0 : mkNew [.int 0] [] = .ok (.new [.int 0]) [] := mkNew_ok (by simp)
        simp only [ev_bin, ev_list, evs_cons, evs_nil, ev_int, bind_ok, fz_int, e0, ev_var, List.getElem?_cons_succ, List.getElem?_cons_zero, e1, sat_ok, List.set_cons_succ, List.set_cons_zero, fz_new]
        refine sat_cons (sat_set ?_)
        simp only [ev_bin, ev_list, evs_cons, evs_nil, ev_int, bind_ok, fz_int, e0, ev_var, List.getElem?_cons_succ, List.getElem?_cons_zero, e2, sat_ok, List.set_cons_succ, List.set_cons_zero, fz_new]
        refine sat_cons (sat_set ?_)
        have e3 : evI (OO k) [some (.int p), some (tI l), some (.lst (nums (PL p D))), some (.int c), some (.lst (nums (0 :: PL p D))), some (.lst (nums (PL p D ++ [0]))), none] (.range (.blt .len (.cons (.var 4) .nil))) [] = .ok (.im (rangeI 0 (D.length + 2))) [] := by
          simp only [evI_range, ev_blt, evs_cons, evs_nil, ev_var, List.getElem?_cons_succ, List.getElem?_cons_zero, bind_ok, fz_lst, blt_len_lst, nums_len, List.length_cons, hU]
          rw [rangeW_eq rfl (okR_of (by omega) (by omega))]
          simp only []
          congr 3
        have e4 := ev_map (O := OO k) (elt := .bin .mod (.bin .sub (.sub (.var 4) (.var 6)) (.bin .mul (.var 3) (.sub (.var 5) (.var 6)))) (.var 0)) (t := .nm 6) (own := [6]) (fun w => match w with | .int x => .int (E (c :: D) x.toNat % p) | _ => .non) e3 (by rw [rangeI_len]; omega) (by
          intro x hx
          obtain ⟨i, hi, rfl⟩ := rangeI_mem hx
          refine ⟨_, .int (E (c :: D) i % p), rfl, ?_, ?_⟩
          · have h1 : at? (nums (0 :: PL p D)) ((i : Nat) : Int) = some (.int ((0 :: PL p D).getD i 0)) := at_nat (by rw [List.length_cons]; omega)
            have h2 : at? (nums (PL p D ++ [0])) ((i : Nat) : Int) = some (.int ((PL p D ++ [0]).getD i 0)) := at_nat (by simp; omega)
            have h3 : (PL p D ++ [0]).getD i 0 = E D i % p := by
              rw [← PL_is p D i]
              simp only [List.getD_eq_getElem?_getD, List.getElem?_append]
              split
              · rfl
              · rename_i hj
                rw [List.getElem?_eq_none (l := PL p D) (by omega)]
                cases e : ([0] : List Int)[i - (PL p D).length]? with
                | none => rfl
                | some x =>
                    have : x ∈ ([0] : List Int) := List.mem_of_getElem? e
                    simp at this; subst this; rfl
            have h5 : Eq' p ((0 :: PL p D).getD i 0) (up (E D) i) := by
              cases i with
              | zero => rfl
              | succ i => rw [List.getD_cons_succ]; exact (PL_is p D).eq' i
            have h6 : 0 ≤ E D i % p ∧ E D i % p < p := ⟨Int.emod_nonneg _ (by omega), Int.emod_lt_of_pos _ (by omega)⟩
            rw [h3] at h2
            have h7 : ((0 :: PL p D).getD i 0 - c * (E D i % p)) % p = E (c :: D) i % p := by
              rw [E_cons]
              exact h5.sub (Eq'.rfl'.mul (Eq'.mod _ _))
            simp only [wipe_cons, wipe_nil, fz_int, Int.zero_add, ev_bin, ev_sub, ev_var, List.set_cons_succ, List.set_cons_zero, List.getElem?_cons_succ, List.getElem?_cons_zero, bind_ok, subW, items_lst, h1, h2, ofO_some, bop_sub, bop_mul (.inr (small h6.1 h6.2 hp2)), bop_mod (show 0 < p by omega), h7]
          · show W.int _ = W.int (E (c :: D) (0 + (i : Int)).toNat % p)
            rw [show (0 + (i : Int)).toNat = i by omega])
        have e5 : ((rangeI 0 (D.length + 2)).map fun w => match w with | .int x => W.int (E (c :: D) x.toNat % p) | _ => .non) = nums (PL p (c :: D)) := by
          simp [rangeI, PL, nums, Function.comp_def]
        rw [e5] at e4
        simp only [e4, sat_ok, List.set_cons_succ, List.set_cons_zero, fz_new]
        refine sat_nil ⟨c :: D, M, _, _, _, rfl, rfl, rfl, List.Perm.trans ?_ hM⟩
        simpa using List.perm_middle.symm
  · rintro ρ cs ⟨D, M, o3, o4, o5, hR, rfl, rfl, hM⟩
    cases M with
    | cons c M => exact nomatch hR
    | nil =>
        refine sat_cons (sat_ret ?_)
        rw [List.append_nil] at hM
        rw [← PL_perm hM]
        have := hM.length_eq
        simp only [ev_blt, evs_cons, evs_nil, ev_var, List.getElem?_cons_succ, List.getElem?_cons_zero, bind_ok, fz_lst, blt_tuple_lst, mkTup_nums (show (PL p D).length ≤ 100000 by rw [PL_len]; omega), sat_ok]
        exact handed_tI _ _
theorem marks_take {p : Int} {l : List Int} {m n : Nat} (h : m ≤ n) : (marksL p l n).take m = marksL p l m := by
  unfold marksL
  rw [← List.map_take, List.take_range, Nat.min_eq_left h]
theorem marks_no {p : Int} (h : Prim p) {l : List Int} (hl : Lot p l) : (0 : Int) ∉ marksL p l 12 := by
  intro hx
  simp only [marksL, List.mem_map, List.mem_range] at hx
  obtain ⟨i, hi, e⟩ := hx
  refine h.pr.mark (fun n hn => ?_) e
  have := hl.lo n hn
  omega
theorem any_nums {L : List Int} (h : (0 : Int) ∉ L) : ((nums L).any fun y => eqW y (.int 0)) = false := by
  induction L with
  | nil => rfl
  | cons a L ih =>
      rw [nums_cons, List.any_cons, ih fun z => h (List.mem_cons_of_mem _ z), eqW_int]
      have : a ≠ 0 := fun z => h (by rw [z]; exact List.mem_cons_self ..)
      simp [this]
theorem all_nums (L : List Int) : (nums L).all isFlatW = true := by
  induction L with
  | nil => rfl
  | cons a L ih => rw [nums_cons, List.all_cons, ih]; rfl
theorem roots_row {p : Int} (h : Prim p) {l : List Int} (hu : Up l) (hl : ∀ n ∈ l, 0 ≤ n ∧ n < p) : ((upto p.toNat).filter fun x => decide (V p (PL p l) x = 0)) = l := by
  have := roots_eq h.pr hl hu
  simp only [V_PL]
  exact this
theorem cut_to {xs : List W} {m : Nat} (h : m ≤ xs.length) : cut xs none (some (m : Int)) = xs.take m := by
  show (xs.drop (bound xs.length 0 none)).take (bound xs.length xs.length (some (m : Int)) - bound xs.length 0 none) = _
  have e1 : bound xs.length 0 none = 0 := rfl
  have e2 : bound xs.length xs.length (some (m : Int)) = m := by
    show (if (m : Int) < 0 then ((m : Int) + (xs.length : Int)).toNat else min (m : Int).toNat xs.length) = m
    rw [if_neg (by omega)]
    omega
  rw [e1, e2]; simp
theorem p_lot_right (k : Nat) {p : Int} (h : Prim p) {l : List Int} (hl : Lot p l) {m : Nat} (hm : m ≤ 12) : P (k + 6) 23 [.int p, tI l, .int m] (.bl true) := by
  refine P_of at_law_lot_right (by rfl) ?_
  show Sat (runs (OO (k + 5)) b_law_lot_right [some (.int p), some (tI l), some (.int m), none, none, none, none] []) _
  have h1 := h.lo
  have h2 := h.hi
  have h3 := hl.few
  have hb : ∀ n ∈ l, 0 ≤ n ∧ n < p := fun n hn => by have := hl.lo n hn; omega
  have lm : ∀ m, (marksL p l m).length = m := fun m => by simp [marksL]
  have e1 := (p_law_marks (k + 4) (by omega : 1 < p) h2 l).call (cs := []) (ws := [.int p, tI l, .int 12]) (by simp)
  have e2 := (p_law_poly (k + 4) (by omega : 1 < p) h2 (l := l) (by omega)).call (cs := []) (ws := [.int p, tI l]) (by simp)
  have e3 := (p_marks k h hl hm).call (cs := []) (ws := [.int p, tI l, .int m]) (by simp)
  have e4 := (p_marks k h hl (m := 12) (by omega)).call (cs := []) (ws := [.int p, tI l, .int 12]) (by simp)
  have e5 := (p_same (k + 3) (L := marksL p l m) (by rw [lm]; omega)).call (cs := []) (ws := [tI (marksL p l m), tI (marksL p l m)]) (by simp)
  have e6 := (p_same (k + 3) (L := marksL p l 12) (by rw [lm]; omega)).call (cs := []) (ws := [tI (marksL p l 12), tI (marksL p l 12)]) (by simp)
  have e7 := (p_with_roots (k + 1) h (l := l) (by omega)).call (cs := []) (ws := [.int p, tI l]) (by simp)
  have e8 := (p_same (k + 3) (L := PL p l) (by rw [PL_len]; omega)).call (cs := []) (ws := [tI (PL p l), tI (PL p l)]) (by simp)
  have e9 := (p_roots_of (k + 2) h (L := PL p l) (by rw [PL_len]; omega)).call (cs := []) (ws := [.int p, tI (PL p l)]) (by simp)
  rw [roots_row h hl.up hb] at e9
  have e10 := (p_same (k + 3) (L := l) (by omega)).call (cs := []) (ws := [tI l, tI l]) (by simp)
  refine sat_cons (sat_set ?_)
  simp only [ev_callP, evs_cons, evs_nil, ev_int, ev_var, List.getElem?_cons_succ, List.getElem?_cons_zero, bind_ok, fz_int, fz_tup, e1, sat_ok, List.set_cons_succ, List.set_cons_zero]
  refine sat_cons (sat_set ?_)
  simp only [ev_callP, evs_cons, evs_nil, ev_int, ev_var, List.getElem?_cons_succ, List.getElem?_cons_zero, bind_ok, fz_int, fz_tup, e2, sat_ok, List.set_cons_succ, List.set_cons_zero]
  refine sat_cons (sat_if ?_)
  have e11 : sliceW (tI (marksL p l 12)) none (some (m : Int)) [] = .ok (tI (marksL p l m)) [] := by
    show mkTup (cut (nums (marksL p l 12)) none (some (m : Int))) [] = _
    rw [cut_to (by rw [nums_len, lm]; exact hm), ← marks_take hm]
    rw [show (nums (marksL p l 12)).take m = nums ((marksL p l 12).take m) by simp [nums]]
    exact mkTup_nums (by rw [marks_take hm, lm]; omega)
  simp only [ev_or, ev_not, ev_callP, ev_slice, evO_none, evO_some, evs_cons, evs_nil, ev_int, ev_var, List.getElem?_cons_succ, List.getElem?_cons_zero, bind_ok, fz_int, fz_tup, e3, e11, e5, e4, e6, truth_bl, Bool.not_true, sat_ok]
  refine sat_nil ?_
  refine sat_cons (sat_set ?_)
  simp only [ev_callP, evs_cons, evs_nil, ev_int, ev_var, List.getElem?_cons_succ, List.getElem?_cons_zero, bind_ok, fz_int, fz_tup, e7, sat_ok, List.set_cons_succ, List.set_cons_zero]
  refine sat_cons (sat_if ?_)
  have e12 : cop .isin (.int 0) (tI (marksL p l 12)) [] = some false := by
    show (if (isFlatW (.int 0) && (nums (marksL p l 12)).all isFlatW) = true then some ((nums (marksL p l 12)).any fun y => eqW y (.int 0)) else none) = _
    rw [all_nums, any_nums (marks_no h hl)]; rfl
  simp only [ev_or, ev_not, ev_cmp, ev_callP, evs_cons, evs_nil, ev_int, ev_var, List.getElem?_cons_succ, List.getElem?_cons_zero, bind_ok, fz_int, fz_tup, e8, e12, truth_bl, Bool.not_true, sat_ok]
  refine sat_nil ?_
  refine sat_cons ?_
  refine sat_for (xs := rangeI 0 12) (by simp only [evI_range, ev_int, bind_ok]; rfl) (I := fun R ρ cs => ∃ (o : Option W), (∀ x ∈ R, ∃ i : Nat, i < 12 ∧ x = .int (0 + i)) ∧ cs = [] ∧ ρ = [some (.int p), some (tI l), some (.int m), some (tI (marksL p l 12)), some (tI (PL p l)), some (tI (PL p l)), o]) ?_ ?_ ?_
  · exact ⟨none, fun x hx => rangeI_mem hx, rfl, rfl⟩
  · rintro y R ρ cs ⟨o, hR, rfl, rfl⟩
    obtain ⟨i, hi, rfl⟩ := hR _ (List.mem_cons_self ..)
    simp only [put_nm, List.set_cons_succ, List.set_cons_zero, fz_int, Int.zero_add]
    have f1 := (p_value_at (k + 2) h (L := PL p l) (by rw [PL_len]; omega) (p - 1 - i)).call (cs := []) (ws := [.int p, tI (PL p l), .int (p - 1 - i)]) (by simp)
    have f2 : at? (nums (marksL p l 12)) ((i : Nat) : Int) = some (.int (V p (PL p l) (p - 1 - i))) := by
      rw [at_nat (by rw [lm]; exact hi)]
      have : (marksL p l 12).getD i 0 = V p (PL p l) (p - 1 - i) := by
        rw [V_PL, List.getD_eq_getElem?_getD]
        simp only [marksL, List.getElem?_map, List.getElem?_range hi]
        show pv l (p - (1 + (i : Int))) % p = _
        rw [show p - (1 + (i : Int)) = p - 1 - i by omega]
      rw [this]
    have f3 := (p_same_int (k + 4) (V p (PL p l) (p - 1 - i))).call (cs := []) (ws := [.int (V p (PL p l) (p - 1 - i)), .int (V p (PL p l) (p - 1 - i))]) (by simp)
    refine sat_cons (sat_if ?_)
    simp only [ev_not, ev_callP, ev_bin, ev_sub, evs_cons, evs_nil, ev_int, ev_var, List.getElem?_cons_succ, List.getElem?_cons_zero, bind_ok, bop_sub, fz_int, fz_tup, f1, subW, items_tup, f2, ofO_some, f3, truth_bl, Bool.not_true, sat_ok]
    refine sat_nil ?_
    exact sat_nil ⟨_, fun x hx => by simpa using hR x (List.mem_cons_of_mem _ hx), rfl, rfl⟩
  · rintro ρ cs ⟨o, hR, rfl, rfl⟩
    refine sat_cons (sat_if ?_)
    simp only [ev_cmp, ev_bin, ev_blt, evs_cons, evs_nil, ev_int, ev_var, List.getElem?_cons_succ, List.getElem?_cons_zero, bind_ok, fz_tup, blt_len_tup, nums_len, bop_mul (.inl (show -big < p ∧ p < big by unfold big; omega)), cop_gt_int, sat_ok]
    cases decide (4000 < p * (l.length : Int)) with
    | true =>
        refine sat_cons (sat_ret ?_)
        simp only [ev_bl, sat_ok]
        rfl
    | false =>
        refine sat_nil ?_
        refine sat_cons (sat_ret ?_)
        simp only [ev_callP, evs_cons, evs_nil, ev_int, ev_var, List.getElem?_cons_succ, List.getElem?_cons_zero, bind_ok, fz_int, fz_tup, e9, e10, sat_ok]
        rfl
end K80
end S_K80p

section S_EvCells
set_option Elab.async false
set_option linter.all false
/-! EvCells: cells that change. -/
namespace Ev
open Mi
variable {O : Orc}
theorem sat_bind {α β : Type} {r : R α} {f : α → List Ob → R β} {Q : β → List Ob → Prop} : Sat (r.bind f) Q = Sat r (fun a cs => Sat (f a cs) Q) := by
  cases r with
  | ok a cs => rw [bind_ok, sat_ok]
  | exn x cs =>
      refine propext ⟨fun h => ?_, fun h => ?_⟩
      · obtain ⟨_, _, e, _⟩ := h.ex; cases e
      · obtain ⟨_, _, e, _⟩ := h.ex; cases e
  | bad =>
      refine propext ⟨fun h => ?_, fun h => ?_⟩
      · obtain ⟨_, _, e, _⟩ := h.ex; cases e
      · obtain ⟨_, _, e, _⟩ := h.ex; cases e
theorem cellL_same {cs : List Ob} {n : Nat} {xs : List W} (h : n < cs.length) : cellL (cs.set n (.lst xs)) n = some xs := by
  simp [cellL, List.getElem?_set, h]
theorem cellL_other {cs : List Ob} {n m : Nat} {o : Ob} (h : n ≠ m) : cellL (cs.set n o) m = cellL cs m := by
  simp [cellL, List.getElem?_set, h]
theorem cellL_lt {cs : List Ob} {n : Nat} {xs : List W} (h : cellL cs n = some xs) : n < cs.length := by
  unfold cellL at h
  apply Classical.byContradiction
  intro hn
  rw [List.getElem?_eq_none (by omega)] at h
  exact nomatch h
theorem cellL_app {cs : List Ob} {o : List Ob} {n : Nat} (h : n < cs.length) : cellL (cs ++ o) n = cellL cs n := by
  simp [cellL, List.getElem?_append, h]
theorem cellL_end {cs : List Ob} {xs : List W} : cellL (cs ++ [.lst xs]) cs.length = some xs := by
  simp [cellL]
theorem cellL_of {cs cs1 : List Ob} {n : Nat} (h : cs1[n]? = cs[n]?) : cellL cs1 n = cellL cs n := by
  simp [cellL, h]
theorem meth_append {cs : List Ob} {n : Nat} {xs : List W} {w : W} (h : cellL cs n = some xs) (hl : xs.length < 100000) : meth .append (.ref n) [w] cs = .ok .non (cs.set n (.lst (xs ++ [w]))) := by
  simp only [meth, h]
  rw [if_pos (show xs.length < lim from hl)]
theorem meth_pop {cs : List Ob} {n : Nat} {xs : List W} {w : W} (h : cellL cs n = some (xs ++ [w])) : meth .pop (.ref n) [] cs = .ok w (cs.set n (.lst xs)) := by
  simp [meth, h]
theorem meth_popAt {cs : List Ob} {n i : Nat} {xs : List W} {w : W} (h : cellL cs n = some xs) (hi : xs[i]? = some w) : meth .popAt (.ref n) [.int (i : Int)] cs = .ok w (cs.set n (.lst (xs.eraseIdx i))) := by
  have hl : i < xs.length := by
    apply Classical.byContradiction
    intro hn
    rw [List.getElem?_eq_none (by omega)] at hi
    exact nomatch hi
  simp only [meth, h, place_nat hl, hi]
theorem setIdx_last {cs : List Ob} {n : Nat} {xs : List W} {w v : W} (h : cellL cs n = some (xs ++ [w])) : setIdx (.ref n) (.int (-1)) v cs = some (cs.set n (.lst (xs ++ [v]))) := by
  have e : place (xs ++ [w]).length (-1) = some xs.length := by
    have : (xs ++ [w]).length = xs.length + 1 := by simp
    rw [this, place, if_neg (by omega), if_pos (by omega)]
    congr 1
    omega
  simp only [setIdx, h, e]
  simp
theorem at_end {xs : List W} {x : W} : at? (xs ++ [x]) (-1) = some x := by
  have e : place (xs ++ [x]).length (-1) = some xs.length := by
    have : (xs ++ [x]).length = xs.length + 1 := by simp
    rw [this, place, if_neg (by omega), if_pos (by omega)]
    congr 1
    omega
  rw [at?, e]
  show (xs ++ [x])[xs.length]? = some x
  simp
theorem snoc_or {α : Type} (l : List α) : l = [] ∨ ∃ m a, l = m ++ [a] := by
  rcases l.eq_nil_or_concat with e | ⟨m, a, e⟩
  · exact .inl e
  · exact .inr ⟨m, a, by rw [e, List.concat_eq_append]⟩
theorem nums_snoc (L : List Int) (a : Int) : nums (L ++ [a]) = nums L ++ [.int a] := by simp [nums]
/-! the draws' source -/
abbrev mo : Int := 18446744073709551557
/-- cell 2 is the source, cell 1 its great numbers -/
def Sr (cs : List Ob) : Prop := ∃ (st ct : Int) (L : List Int), cellL cs 2 = some [.int st, .int ct, .ref 1] ∧ cellL cs 1 = some (nums L) ∧ 0 ≤ st ∧ st < mo
/-- no other cell is changed -/
def Kp (cs cs1 : List Ob) : Prop := cs1.length = cs.length ∧ ∀ i, i ≠ 1 → i ≠ 2 → cs1[i]? = cs[i]?
theorem Kp.rfl' {cs : List Ob} : Kp cs cs := ⟨rfl, fun _ _ _ => rfl⟩
theorem Kp.trans {a b c : List Ob} (h : Kp a b) (k : Kp b c) : Kp a c := ⟨k.1.trans h.1, fun i h1 h2 => (k.2 i h1 h2).trans (h.2 i h1 h2)⟩
theorem Kp.set1 {cs cs1 : List Ob} {o : Ob} (h : Kp cs cs1) : Kp cs (cs1.set 1 o) := ⟨by rw [List.length_set]; exact h.1, fun i h1 h2 => by rw [List.getElem?_set, if_neg (Ne.symm h1)]; exact h.2 i h1 h2⟩
theorem Kp.set2 {cs cs1 : List Ob} {o : Ob} (h : Kp cs cs1) : Kp cs (cs1.set 2 o) := ⟨by rw [List.length_set]; exact h.1, fun i h1 h2 => by rw [List.getElem?_set, if_neg (Ne.symm h2)]; exact h.2 i h1 h2⟩
theorem Kp.cell {cs cs1 : List Ob} (h : Kp cs cs1) {n : Nat} (h1 : n ≠ 1) (h2 : n ≠ 2) : cellL cs1 n = cellL cs n := cellL_of (h.2 n h1 h2)
end Ev
end S_EvCells

section S_EvDraw
set_option Elab.async false
set_option linter.all false
set_option maxRecDepth 100000
/-! EvDraw: the script's numbers and draws of them. -/
namespace Ev
open Mi
variable {O : Orc}
def b_source : Mi.Ss := (.cons (.set 1 (.int 88172645463325252)) (.cons (.set 2 (.cel (.list .nil))) (.cons (.for (.nm 3) (.ex (.slice (.var 0) .none (.some (.int 63)))) (.cons (.set 1 (.bin .mod (.bin .add (.bin .add (.bin .mul (.var 1) (.var 1)) (.bin .mod (.blt .int (.cons (.var 3) .nil)) (.int 18446744073709551557))) (.int 7046029254386353131)) (.int 18446744073709551557))) (.cons (.ife (.cmp .ge (.var 3) (.bin .pow (.int 10) (.int 18))) (.cons (.ex (.meth .append (.var 2) (.cons (.var 3) .nil))) .nil) .nil) .nil))) (.cons (.ret (.list (.cons (.var 1) (.cons (.int 0) (.cons (.cel (.listR (.var 2))) .nil))))) .nil))))
def b_draw : Mi.Ss := (.cons (.set 2 (.cel (.sub (.var 0) (.int 2)))) (.cons (.ife (.and (.cmp .gt (.blt .len (.cons (.var 2) .nil)) (.int 0)) (.cmp .eq (.sub (.var 2) (.neg (.int 1))) (.int 0))) (.cons (.ex (.meth .pop (.var 2) .nil)) .nil) .nil) (.cons (.ife (.cmp .gt (.blt .len (.cons (.var 2) .nil)) (.int 0)) (.cons (.set 3 (.bin .mod (.blt .int (.cons (.sub (.var 2) (.neg (.int 1))) .nil)) (.var 1))) (.cons (.setI (.var 2) (.neg (.int 1)) (.bin .fdiv (.sub (.var 2) (.neg (.int 1))) (.var 1))) (.cons (.ret (.var 3)) .nil))) .nil) (.cons (.setI (.var 0) (.int 1) (.bin .add (.sub (.var 0) (.int 1)) (.int 1))) (.cons (.setI (.var 0) (.int 0) (.bin .mod (.bin .add (.bin .add (.bin .mul (.sub (.var 0) (.int 0)) (.sub (.var 0) (.int 0))) (.bin .mul (.sub (.var 0) (.int 1)) (.int 7046029254386353131))) (.int 1)) (.int 18446744073709551557))) (.cons (.ret (.bin .mod (.blt .int (.cons (.bin .fdiv (.sub (.var 0) (.int 0)) (.int 65536)) .nil)) (.var 1))) .nil))))))
theorem mo_big {st : Int} (h : 0 ≤ st) (h2 : st < mo) : -big < st ∧ st < big := by
  unfold mo at h2
  unfold big
  omega
theorem sat_draw {cs : List Ob} {n : Int} (h : Sr cs) (h1 : 0 < n) (h2 : n < 1073741824) : Sat (runs O b_draw [some (.ref 2), some (.int n), none, none] cs) fun fl cs1 => ∃ v : Int, fl = .ret (.int v) ∧ 0 ≤ v ∧ v < n ∧ Sr cs1 ∧ Kp cs cs1 := by
  obtain ⟨st, ct, L, c2, c1, s0, s1⟩ := h
  refine sat_cons (sat_set ?_)
  have a0 : at? [.int st, .int ct, .ref 1] 0 = some (.int st) := rfl
  have a1 : at? [.int st, .int ct, .ref 1] 1 = some (.int ct) := rfl
  have a2 : at? [.int st, .int ct, .ref 1] 2 = some (.ref 1) := rfl
  simp only [ev_cel, ev_sub, ev_var, ev_int, List.getElem?_cons_succ, List.getElem?_cons_zero, bind_ok, subW, items_ref, c2, a2, ofO_some, sat_ok, List.set_cons_succ, List.set_cons_zero, fz_ref]
  refine sat_go (fun ρ1 cs1 => ρ1 = [some (.ref 2), some (.int n), some (.ref 1), none] ∧ Kp cs cs1 ∧ cellL cs1 2 = some [.int st, .int ct, .ref 1] ∧ ∃ L, cellL cs1 1 = some (nums L)) ?_ ?_
  · refine sat_if ?_
    simp only [ev_and, ev_cmp, ev_blt, evs_cons, evs_nil, ev_int, ev_var, List.getElem?_cons_succ, List.getElem?_cons_zero, bind_ok, fz_ref, blt_len_ref c1, nums_len, cop_gt_int]
    rcases snoc_or L with rfl | ⟨N, a, rfl⟩
    · simp only [List.length_nil, Int.natCast_zero, Int.lt_irrefl, decide_false, sat_ok]
      exact sat_nil ⟨_, rfl, rfl, Kp.rfl', c2, _, c1⟩
    · have e2 : decide ((0 : Int) < ((N ++ [a]).length : Nat)) = true := by simp
      rw [nums_snoc] at c1
      simp only [e2, ev_sub, ev_neg, ev_int, bind_ok, ev_var, List.getElem?_cons_succ, List.getElem?_cons_zero, subW, items_ref, c1, at_end, ofO_some, cop_eq_int, sat_ok]
      by_cases ha : a = 0
      · subst ha
        simp only [beq_self_eq_true]
        refine sat_cons (sat_ex ?_)
        simp only [ev_meth, ev_var, List.getElem?_cons_succ, List.getElem?_cons_zero, bind_ok, isCell_ref, c1, Option.isSome_some, if_true, evs_nil, meth_pop c1, sat_ok]
        exact sat_nil ⟨_, rfl, rfl, Kp.rfl'.set1, by rw [cellL_other (by decide)]; exact c2, N, cellL_same (cellL_lt c1)⟩
      · have : (a == 0) = false := by simpa using ha
        simp only [this]
        rw [← nums_snoc] at c1
        exact sat_nil ⟨_, rfl, rfl, Kp.rfl', c2, _, c1⟩
  · rintro ρ1 cs1 ⟨rfl, kp, c2, L, c1⟩
    refine sat_cons (sat_if ?_)
    simp only [ev_cmp, ev_blt, evs_cons, evs_nil, ev_int, ev_var, List.getElem?_cons_succ, List.getElem?_cons_zero, bind_ok, fz_ref, blt_len_ref c1, nums_len, cop_gt_int, sat_ok]
    rcases snoc_or L with rfl | ⟨N, a, rfl⟩
    · simp only [List.length_nil, Int.natCast_zero, Int.lt_irrefl, decide_false]
      refine sat_nil ?_
      refine sat_cons (sat_setI ?_)
      have b1 : setIdx (.ref 2) (.int 1) (.int (ct + 1)) cs1 = some (cs1.set 2 (.lst [.int st, .int (ct + 1), .ref 1])) := by
        simp only [setIdx, c2]; rfl
      simp only [ev_bin, ev_sub, ev_int, ev_var, List.getElem?_cons_succ, List.getElem?_cons_zero, bind_ok, subW, items_ref, c2, a1, ofO_some, bop_add, sat_ok, fz_int]
      refine ⟨_, b1, ?_⟩
      have l2 := cellL_lt c2
      have c3 : cellL (cs1.set 2 (.lst [.int st, .int (ct + 1), .ref 1])) 2 = some [.int st, .int (ct + 1), .ref 1] := cellL_same l2
      generalize hX : cs1.set 2 (.lst [.int st, .int (ct + 1), .ref 1]) = X at c3 ⊢
      have kX : Kp cs X := hX ▸ kp.set2
      have dX : cellL X 1 = some (nums []) := by rw [← hX, cellL_other (by decide)]; exact c1
      have a0 : at? [.int st, .int (ct + 1), .ref 1] 0 = some (.int st) := rfl
      have a1 : at? [.int st, .int (ct + 1), .ref 1] 1 = some (.int (ct + 1)) := rfl
      refine sat_cons (sat_setI ?_)
      have b2 : ∀ v, setIdx (.ref 2) (.int 0) (.int v) X = some (X.set 2 (.lst [.int v, .int (ct + 1), .ref 1])) := by
        intro v
        simp only [setIdx, c3]; rfl
      simp only [ev_bin, ev_sub, ev_int, ev_var, List.getElem?_cons_succ, List.getElem?_cons_zero, bind_ok, subW, items_ref, c3, a0, a1, ofO_some, bop_mul (.inl (mo_big s0 s1)), bop_mul (a := ct + 1) (b := 7046029254386353131) (.inr (by unfold big; decide)), bop_add, bop_mod (show (0 : Int) < 18446744073709551557 by decide), sat_ok, fz_int]
      refine ⟨_, b2 _, ?_⟩
      have m0 : 0 ≤ (st * st + (ct + 1) * 7046029254386353131 + 1) % 18446744073709551557 := Int.emod_nonneg _ (by decide)
      have m1 : (st * st + (ct + 1) * 7046029254386353131 + 1) % 18446744073709551557 < mo := Int.emod_lt_of_pos _ (by decide)
      generalize (st * st + (ct + 1) * 7046029254386353131 + 1) % 18446744073709551557 = v at m0 m1 ⊢
      have c4 : cellL (X.set 2 (.lst [.int v, .int (ct + 1), .ref 1])) 2 = some [.int v, .int (ct + 1), .ref 1] := cellL_same (cellL_lt c3)
      have a0 : at? [.int v, .int (ct + 1), .ref 1] 0 = some (.int v) := rfl
      refine sat_cons (sat_ret ?_)
      simp only [ev_bin, ev_blt, evs_cons, evs_nil, ev_sub, ev_int, ev_var, List.getElem?_cons_succ, List.getElem?_cons_zero, bind_ok, subW, items_ref, c4, a0, ofO_some, bop_fdiv (show (0 : Int) < 65536 by decide) (show (65536 : Int) < 1073741824 by decide), fz_int, blt_int, bop_mod h1, sat_ok]
      exact ⟨_, rfl, Int.emod_nonneg _ (by omega), Int.emod_lt_of_pos _ h1, ⟨v, ct + 1, [], c4, by rw [cellL_other (by decide)]; exact dX, m0, m1⟩, kX.set2⟩
    · have e2 : decide ((0 : Int) < ((N ++ [a]).length : Nat)) = true := by simp
      rw [nums_snoc] at c1
      simp only [e2]
      refine sat_cons (sat_set ?_)
      simp only [ev_bin, ev_blt, evs_cons, evs_nil, ev_sub, ev_neg, ev_int, bind_ok, ev_var, List.getElem?_cons_succ, List.getElem?_cons_zero, subW, items_ref, c1, at_end, ofO_some, fz_int, blt_int, bop_mod h1, sat_ok, List.set_cons_succ, List.set_cons_zero]
      refine sat_cons (sat_setI ?_)
      simp only [ev_bin, ev_blt, evs_cons, evs_nil, ev_sub, ev_neg, ev_int, bind_ok, ev_var, List.getElem?_cons_succ, List.getElem?_cons_zero, subW, items_ref, c1, at_end, ofO_some, fz_int, bop_fdiv h1 h2, sat_ok]
      refine ⟨_, setIdx_last c1, sat_cons (sat_ret ?_)⟩
      simp only [ev_var, List.getElem?_cons_succ, List.getElem?_cons_zero, sat_ok]
      exact ⟨_, rfl, Int.emod_nonneg _ (by omega), Int.emod_lt_of_pos _ h1, ⟨st, ct, N ++ [a / n], by rw [cellL_other (by decide)]; exact c2, by rw [nums_snoc]; exact cellL_same (cellL_lt c1), s0, s1⟩, kp.set1⟩
theorem sat_source {ns : List Int} (hl : ns.length ≤ 63) : Sat (runs O b_source [some (.scr (nums ns)), none, none, none] []) fun fl cs1 => ∃ (st : Int) (A B : List W) (L : List Int), fl = .ret (.new [.int st, .int 0, .ref 1]) ∧ cs1 = [.lst A, .lst (nums L)] ∧ 0 ≤ st ∧ st < mo := by
  refine sat_cons (sat_set ?_)
  simp only [ev_int, sat_ok, List.set_cons_succ, List.set_cons_zero, fz_int]
  refine sat_cons (sat_set ?_)
  simp only [ev_cel, ev_list, evs_nil, bind_ok]
  rw [mkNew_ok (by simp)]
  simp only [bind_ok, sat_ok, List.set_cons_succ, List.set_cons_zero, List.nil_append, List.length_nil, fz_ref]
  refine sat_cons ?_
  have e0 : ∀ v : W, sliceW (.scr (nums ns)) none (some 63) [.lst []] = .ok (.new (nums ns)) [.lst []] := by
    intro v
    show mkNew (cut (nums ns) none (some 63)) [.lst []] = _
    have : cut (nums ns) none (some 63) = nums ns := by
      show ((nums ns).drop 0).take (min 63 (nums ns).length - 0) = _
      rw [nums_len, List.drop_zero, Nat.sub_zero, List.take_of_length_le]
      rw [nums_len]; omega
    rw [this]
    exact mkNew_ok (by rw [nums_len]; omega)
  refine sat_for (xs := nums ns) (by simp only [evI_ex, ev_slice, evO_none, evO_some, ev_int, ev_var, List.getElem?_cons_succ, List.getElem?_cons_zero, bind_ok, e0 .non, srcOf_new, ofO_some]) (I := fun R ρ cs => ∃ (M L : List Int) (st : Int) (o : Option W), R = nums M ∧ 0 ≤ st ∧ st < mo ∧ L.length + M.length ≤ 63 ∧ cs = [.lst (nums L)] ∧ ρ = [some (.scr (nums ns)), some (.int st), some (.ref 0), o]) ?_ ?_ ?_
  · exact ⟨ns, [], _, none, rfl, by decide, by decide, by simpa using hl, rfl, rfl⟩
  · rintro y R ρ cs ⟨M, L, st, o, hR, s0, s1, hM, rfl, rfl⟩
    cases M with
    | nil => exact nomatch hR
    | cons c M =>
        rw [nums_cons] at hR
        cases hR
        rw [List.length_cons] at hM
        simp only [fz_int, put_nm, List.set_cons_succ, List.set_cons_zero]
        refine sat_cons (sat_set ?_)
        simp only [ev_bin, ev_blt, evs_cons, evs_nil, ev_int, ev_var, List.getElem?_cons_succ, List.getElem?_cons_zero, bind_ok, fz_int, blt_int, bop_mul (.inl (mo_big s0 s1)), bop_add, bop_mod (show (0 : Int) < 18446744073709551557 by decide), sat_ok, List.set_cons_succ, List.set_cons_zero]
        have m0 : 0 ≤ (st * st + c % 18446744073709551557 + 7046029254386353131) % 18446744073709551557 := Int.emod_nonneg _ (by decide)
        have m1 : (st * st + c % 18446744073709551557 + 7046029254386353131) % 18446744073709551557 < mo := Int.emod_lt_of_pos _ (by decide)
        generalize (st * st + c % 18446744073709551557 + 7046029254386353131) % 18446744073709551557 = v at m0 m1 ⊢
        refine sat_cons (sat_if ?_)
        have ep : ∀ cs : List Ob, bop .pow (.int 10) (.int 18) cs = .ok (.int 1000000000000000000) cs := fun cs => by rfl
        simp only [ev_cmp, ev_bin, ev_int, ev_var, List.getElem?_cons_succ, List.getElem?_cons_zero, bind_ok, ep, cop_ge_int, sat_ok]
        cases decide ((1000000000000000000 : Int) ≤ c) with
        | true =>
            refine sat_cons (sat_ex ?_)
            have e1 := meth_append (cs := [.lst (nums L)]) (n := 0) (xs := nums L) (w := .int c) rfl (by rw [nums_len]; omega)
            simp only [ev_meth, ev_var, List.getElem?_cons_succ, List.getElem?_cons_zero, bind_ok, isCell_ref, show cellL [.lst (nums L)] 0 = some (nums L) from rfl, Option.isSome_some, if_true, evs_cons, evs_nil, fz_int, e1, sat_ok]
            refine sat_nil (sat_nil ⟨M, L ++ [c], v, _, rfl, m0, m1, by simp; omega, ?_, rfl⟩)
            rw [nums_snoc]; rfl
        | false =>
            refine sat_nil (sat_nil ⟨M, L, v, _, rfl, m0, m1, by omega, rfl, rfl⟩)
  · rintro ρ cs ⟨M, L, st, o, hR, s0, s1, hM, rfl, rfl⟩
    refine sat_cons (sat_ret ?_)
    have e1 : mkNew [.int st, .int 0, .ref 1] [.lst (nums L), .lst (nums L).reverse] = .ok (.new [.int st, .int 0, .ref 1]) [.lst (nums L), .lst (nums L).reverse] := mkNew_ok (by simp)
    simp only [ev_list, evs_cons, evs_nil, ev_cel, ev_listR, ev_int, ev_var, List.getElem?_cons_succ, List.getElem?_cons_zero, bind_ok, fz_int, itemsL_ref, show cellL [.lst (nums L)] 0 = some (nums L) from rfl, List.length_cons, List.length_nil, fz_ref, List.cons_append, List.nil_append, Nat.zero_add, e1, sat_ok]
    exact ⟨st, nums L, [], L.reverse, rfl, by rw [show nums L.reverse = (nums L).reverse by simp [nums]], s0, s1⟩
end Ev
end S_EvDraw

section S_K80d
set_option Elab.async false
set_option linter.all false
set_option maxRecDepth 100000
/-! K80d: draws. -/
namespace K80
open Mi Ev Po
theorem nums_erase : ∀ (L : List Int) (j : Nat), (nums L).eraseIdx j = nums (L.eraseIdx j)
  | [], _ => rfl
  | _ :: _, 0 => rfl
  | a :: L, j + 1 => by rw [nums_cons, List.eraseIdx_cons_succ, nums_erase L j]; rfl
theorem erase_perm : ∀ {L : List Int} {j : Nat} (h : j < L.length), (L[j] :: L.eraseIdx j).Perm L
  | [], _, h => absurd h (by simp)
  | a :: L, 0, _ => List.Perm.refl _
  | a :: L, j + 1, h => (List.Perm.swap _ _ _).trans ((erase_perm (L := L) (j := j) (by simpa using h)).cons a)
theorem c_draw (k : Nat) {cs : List Ob} {n : Int} (h : Sr cs) (h1 : 0 < n) (h2 : n < 1073741824) : Sat (C (k + 1) 17 [.ref 2, .int n] cs) fun w cs1 => ∃ v : Int, w = .int v ∧ 0 ≤ v ∧ v < n ∧ Sr cs1 ∧ Kp cs cs1 := by
  rw [C_run at_law_draw]
  refine sat_def (by rfl) ?_
  refine (sat_draw (O := OO k) h h1 h2).mono fun fl cs1 z => ?_
  obtain ⟨v, rfl, a, b, c, d⟩ := z
  exact ⟨v, rfl, a, b, c, d⟩
theorem c_source (k : Nat) {ns : List Int} (hl : ns.length ≤ 63) : Sat (C (k + 1) 16 [.scr (nums ns)] []) fun w cs1 => ∃ (st : Int) (A : List W) (L : List Int), w = .new [.int st, .int 0, .ref 1] ∧ cs1 = [.lst A, .lst (nums L)] ∧ 0 ≤ st ∧ st < mo := by
  rw [C_run at_law_source]
  refine sat_def (by rfl) ?_
  refine (sat_source (O := OO k) hl).mono fun fl cs1 z => ?_
  obtain ⟨st, A, B, L, rfl, a, b, c⟩ := z
  exact ⟨st, A, L, rfl, a, b, c⟩
/-- a taken lot: its cell is the last -/
theorem c_taken (k : Nat) {cs : List Ob} {c : Nat} {R : List Int} (h : Sr cs) (hr : cellL cs 3 = some (nums R)) (hc : c ≤ R.length) (hR : R.length ≤ 1000) :
    Sat (C (k + 2) 20 [.ref 2, .ref 3, .int c] cs) fun w cs1 => w = .ref cs.length ∧ ∃ A R' : List Int, cellL cs1 cs.length = some (nums A) ∧ cellL cs1 3 = some (nums R') ∧ (A ++ R').Perm R ∧ A.length = c ∧ Sr cs1 ∧ cs1.length = cs.length + 1 ∧ ∀ i, 3 < i → i < cs.length → cs1[i]? = cs[i]? := by
  rw [C_run at_law_taken]
  refine sat_def (by rfl) ?_
  show Sat (runs (OO (k + 1)) b_law_taken [some (.ref 2), some (.ref 3), some (.int c), none, none] cs) _
  have l3 := cellL_lt hr
  refine sat_cons (sat_set ?_)
  simp only [ev_cel, ev_list, evs_nil, bind_ok]
  rw [mkNew_ok (by simp)]
  simp only [bind_ok, sat_ok, List.set_cons_succ, List.set_cons_zero, fz_ref]
  refine sat_cons ?_
  refine sat_for (xs := rangeI 0 c) (by
      simp only [evI_range, ev_var, List.getElem?_cons_succ, List.getElem?_cons_zero, bind_ok]
      rw [rangeW_eq rfl (okR_of (by omega) (by omega))]
      simp only []
      congr 3) (I := fun Rm ρ cs1 => ∃ (A R' : List Int) (o : Option W), ρ = [some (.ref 2), some (.ref 3), some (.int c), some (.ref cs.length), o] ∧ A.length + Rm.length = c ∧ cellL cs1 cs.length = some (nums A) ∧ cellL cs1 3 = some (nums R') ∧ (A ++ R').Perm R ∧ Sr cs1 ∧ cs1.length = cs.length + 1 ∧ ∀ i, 3 < i → i < cs.length → cs1[i]? = cs[i]?) ?_ ?_ ?_
  · refine ⟨[], R, none, rfl, by rw [rangeI_len]; simp, cellL_end, by rw [cellL_app l3]; exact hr, List.Perm.refl _, ?_, by simp, ?_⟩
    · obtain ⟨st, ct, L, c2, c1, s0, s1⟩ := h
      exact ⟨st, ct, L, by rw [cellL_app (cellL_lt c2)]; exact c2, by rw [cellL_app (cellL_lt c1)]; exact c1, s0, s1⟩
    · intro i _ hi
      rw [List.getElem?_append_left hi]
  · rintro y Rm ρ cs1 ⟨A, R', o, rfl, hA, ca, cr, hp, hs, hl, hk⟩
    rw [List.length_cons] at hA
    have hpl := hp.length_eq
    rw [List.length_append] at hpl
    simp only [put_nm, List.set_cons_succ, List.set_cons_zero]
    refine sat_cons (sat_ex ?_)
    simp only [ev_meth, ev_callH, ev_blt, evs_cons, evs_nil, ev_var, List.getElem?_cons_succ, List.getElem?_cons_zero, bind_ok, isCell_ref, ca, cr, Option.isSome_some, if_true, fz_ref, blt_len_ref cr, nums_len, fz_int, sat_bind]
    refine (c_draw k hs (n := R'.length) (by omega) (by omega)).mono fun w cs2 z => ?_
    obtain ⟨v, rfl, v0, v1, hs2, kp⟩ := z
    obtain ⟨j, rfl⟩ : ∃ j : Nat, v = j := ⟨v.toNat, by omega⟩
    have hj : j < R'.length := by omega
    have cr2 : cellL cs2 3 = some (nums R') := by rw [kp.cell (by decide) (by decide)]; exact cr
    have ca2 : cellL cs2 cs.length = some (nums A) := by rw [kp.cell (by omega) (by omega)]; exact ca
    have e1 := meth_popAt cr2 (i := j) (w := .int (R'.getD j 0)) (getD_nums hj)
    have e2 : (nums R').eraseIdx j = nums (R'.eraseIdx j) := nums_erase _ _
    rw [e2] at e1
    have ca3 : cellL (cs2.set 3 (.lst (nums (R'.eraseIdx j)))) cs.length = some (nums A) := by rw [cellL_other (by omega)]; exact ca2
    have e3 := meth_append (w := .int (R'.getD j 0)) ca3 (by rw [nums_len]; omega)
    simp only [bind_ok, fz_int, e1, e3, sat_ok]
    have hg : R'.getD j 0 = R'[j] := by rw [List.getD_eq_getElem?_getD, List.getElem?_eq_getElem hj]; rfl
    refine sat_nil ⟨A ++ [R'.getD j 0], R'.eraseIdx j, _, rfl, by simp; omega, ?_, ?_, ?_, ?_, ?_, ?_⟩
    · rw [cellL_same (by simp; have := kp.1; omega), nums_snoc]
    · rw [cellL_other (by omega)]; exact cellL_same (by have := kp.1; omega)
    · refine List.Perm.trans ?_ hp
      rw [List.append_assoc, hg]
      exact (List.Perm.append_left A (erase_perm hj))
    · obtain ⟨st, ct, L, c2, c1, s0, s1⟩ := hs2
      exact ⟨st, ct, L, by rw [cellL_other (by omega), cellL_other (by omega)]; exact c2, by rw [cellL_other (by omega), cellL_other (by omega)]; exact c1, s0, s1⟩
    · simp; have := kp.1; omega
    · intro i h1 h2
      rw [List.getElem?_set, if_neg (by omega), List.getElem?_set, if_neg (by omega), kp.2 i (by omega) (by omega)]
      exact hk i h1 h2
  · rintro ρ cs1 ⟨A, R', o, rfl, hA, ca, cr, hp, hs, hl, hk⟩
    refine sat_cons (sat_ret ?_)
    simp only [ev_var, List.getElem?_cons_succ, List.getElem?_cons_zero, sat_ok]
    exact ⟨trivial, A, R', ca, cr, hp, by simpa using hA, hs, hl, hk⟩
end K80
end S_K80d

section S_K80w
set_option Elab.async false
set_option linter.all false
set_option maxRecDepth 100000
set_option maxHeartbeats 4000000
/-! K80w: the law. -/
namespace K80
open Mi Ev Po
theorem at_four {a b c d v : Int} (h0 : 0 ≤ v) (h1 : v < 4) : ∃ x, at? [.int a, .int b, .int c, .int d] v = some (.int x) ∧ (x = a ∨ x = b ∨ x = c ∨ x = d) := by
  have : v = 0 ∨ v = 1 ∨ v = 2 ∨ v = 3 := by omega
  rcases this with rfl | rfl | rfl | rfl
  · exact ⟨a, rfl, .inl rfl⟩
  · exact ⟨b, rfl, .inr (.inl rfl)⟩
  · exact ⟨c, rfl, .inr (.inr (.inl rfl))⟩
  · exact ⟨d, rfl, .inr (.inr (.inr rfl))⟩
theorem at_three {a b c v : Int} (h0 : 0 ≤ v) (h1 : v < 3) : ∃ x, at? [.int a, .int b, .int c] v = some (.int x) ∧ (x = a ∨ x = b ∨ x = c) := by
  have : v = 0 ∨ v = 1 ∨ v = 2 := by omega
  rcases this with rfl | rfl | rfl
  · exact ⟨a, rfl, .inl rfl⟩
  · exact ⟨b, rfl, .inr (.inl rfl)⟩
  · exact ⟨c, rfl, .inr (.inr rfl)⟩
/-- the first five steps -/
def M5 (sc : W) (ρ : ME) (cs : List Ob) : Prop := ∃ (p : Int) (m : Nat) (w2 : W), Prim p ∧ m ≤ 12 ∧ Sr cs ∧ cs.length = 3 ∧
  ρ = [some sc, some (.ref 2), some w2, some (.int p), some (.int m), some (.int (p - 12)), none, none, none, none, none, none, none, none, none, none, none, none]
theorem law_5 (k : Nat) {ns : List Int} (hl : ns.length ≤ 63) {Q : Fl → List Ob → Prop} (h : ∀ ρ cs, M5 (.scr (nums ns)) ρ cs → Sat (runs (OO (k + 6)) (drop 5 b_law) ρ cs) Q) :
    Sat (runs (OO (k + 6)) (drop 0 b_law) [some (.scr (nums ns)), none, none, none, none, none, none, none, none, none, none, none, none, none, none, none, none, none] []) Q := by
  refine step b_law 0 rfl (fun ρ cs => Sr cs ∧ cs.length = 3 ∧ ρ = [some (.scr (nums ns)), some (.ref 2), none, none, none, none, none, none, none, none, none, none, none, none, none, none, none, none]) ?_ ?_
  · refine sat_set ?_
    simp only [ev_bin, ev_cmp, ev_list, ev_tuple, ev_callH, ev_callP, ev_callPK, ev_blt, ev_sub, ev_neg, ev_not, ev_or, ev_int, ev_bl, ev_var, ev_cel, ev_listJ, ev_meth, ev_sortS, evs_cons, evs_nil, List.getElem?_cons_succ, List.getElem?_cons_zero, List.set_cons_succ, List.set_cons_zero, bind_ok, ofO_some, fz_int, fz_ref, fz_lst, fz_new, fz_tup, fz_scr, truth_bl, bop_add, bop_sub, sat_bind, sat_ok]
    refine (c_source (k + 5) hl).mono fun w cs1 z => ?_
    obtain ⟨s, A, L, rfl, rfl, h0, h1⟩ := z
    simp only [ev_bin, ev_cmp, ev_list, ev_tuple, ev_callH, ev_callP, ev_callPK, ev_blt, ev_sub, ev_neg, ev_not, ev_or, ev_int, ev_bl, ev_var, ev_cel, ev_listJ, ev_meth, ev_sortS, evs_cons, evs_nil, List.getElem?_cons_succ, List.getElem?_cons_zero, List.set_cons_succ, List.set_cons_zero, bind_ok, ofO_some, fz_int, fz_ref, fz_lst, fz_new, fz_tup, fz_scr, truth_bl, bop_add, bop_sub, sat_bind, sat_ok]
    exact ⟨_, rfl, ⟨s, 0, L, rfl, rfl, h0, h1⟩, rfl, rfl⟩
  rintro ρ cs ⟨hs, hc, rfl⟩
  refine step b_law 1 rfl (fun ρ cs => ∃ a b c d : Int, (17 ≤ a ∧ a ≤ 997) ∧ (17 ≤ b ∧ b ≤ 997) ∧ (17 ≤ c ∧ c ≤ 997) ∧ (17 ≤ d ∧ d ≤ 997) ∧ Sr cs ∧ cs.length = 3 ∧ ρ = [some (.scr (nums ns)), some (.ref 2), some (.lst [.int a, .int b, .int c, .int d]), none, none, none, none, none, none, none, none, none, none, none, none, none, none, none]) ?_ ?_
  · refine sat_set ?_
    simp only [ev_bin, ev_cmp, ev_list, ev_tuple, ev_callH, ev_callP, ev_callPK, ev_blt, ev_sub, ev_neg, ev_not, ev_or, ev_int, ev_bl, ev_var, ev_cel, ev_listJ, ev_meth, ev_sortS, evs_cons, evs_nil, List.getElem?_cons_succ, List.getElem?_cons_zero, List.set_cons_succ, List.set_cons_zero, bind_ok, ofO_some, fz_int, fz_ref, fz_lst, fz_new, fz_tup, fz_scr, truth_bl, bop_add, bop_sub, sat_bind, sat_ok]
    refine (c_draw (k + 5) hs (by decide) (by decide)).mono fun w ca z => ?_
    obtain ⟨a, rfl, a0, a1, hs, ka⟩ := z
    simp only [ev_bin, ev_cmp, ev_list, ev_tuple, ev_callH, ev_callP, ev_callPK, ev_blt, ev_sub, ev_neg, ev_not, ev_or, ev_int, ev_bl, ev_var, ev_cel, ev_listJ, ev_meth, ev_sortS, evs_cons, evs_nil, List.getElem?_cons_succ, List.getElem?_cons_zero, List.set_cons_succ, List.set_cons_zero, bind_ok, ofO_some, fz_int, fz_ref, fz_lst, fz_new, fz_tup, fz_scr, truth_bl, bop_add, bop_sub, sat_bind, sat_ok]
    refine (c_draw (k + 5) hs (by decide) (by decide)).mono fun w cb z => ?_
    obtain ⟨b, rfl, b0, b1, hs, kb⟩ := z
    simp only [ev_bin, ev_cmp, ev_list, ev_tuple, ev_callH, ev_callP, ev_callPK, ev_blt, ev_sub, ev_neg, ev_not, ev_or, ev_int, ev_bl, ev_var, ev_cel, ev_listJ, ev_meth, ev_sortS, evs_cons, evs_nil, List.getElem?_cons_succ, List.getElem?_cons_zero, List.set_cons_succ, List.set_cons_zero, bind_ok, ofO_some, fz_int, fz_ref, fz_lst, fz_new, fz_tup, fz_scr, truth_bl, bop_add, bop_sub, sat_bind, sat_ok]
    refine (c_draw (k + 5) hs (by decide) (by decide)).mono fun w cc z => ?_
    obtain ⟨c, rfl, c0, c1, hs, kc⟩ := z
    simp only [ev_bin, ev_cmp, ev_list, ev_tuple, ev_callH, ev_callP, ev_callPK, ev_blt, ev_sub, ev_neg, ev_not, ev_or, ev_int, ev_bl, ev_var, ev_cel, ev_listJ, ev_meth, ev_sortS, evs_cons, evs_nil, List.getElem?_cons_succ, List.getElem?_cons_zero, List.set_cons_succ, List.set_cons_zero, bind_ok, ofO_some, fz_int, fz_ref, fz_lst, fz_new, fz_tup, fz_scr, truth_bl, bop_add, bop_sub, sat_bind, sat_ok]
    refine (c_draw (k + 5) hs (by decide) (by decide)).mono fun w cd z => ?_
    obtain ⟨d, rfl, d0, d1, hs, kd⟩ := z
    simp only [ev_bin, ev_cmp, ev_list, ev_tuple, ev_callH, ev_callP, ev_callPK, ev_blt, ev_sub, ev_neg, ev_not, ev_or, ev_int, ev_bl, ev_var, ev_cel, ev_listJ, ev_meth, ev_sortS, evs_cons, evs_nil, List.getElem?_cons_succ, List.getElem?_cons_zero, List.set_cons_succ, List.set_cons_zero, bind_ok, ofO_some, fz_int, fz_ref, fz_lst, fz_new, fz_tup, fz_scr, truth_bl, bop_add, bop_sub, sat_bind, sat_ok]
    rw [mkNew_ok (by simp)]
    simp only [ev_bin, ev_cmp, ev_list, ev_tuple, ev_callH, ev_callP, ev_callPK, ev_blt, ev_sub, ev_neg, ev_not, ev_or, ev_int, ev_bl, ev_var, ev_cel, ev_listJ, ev_meth, ev_sortS, evs_cons, evs_nil, List.getElem?_cons_succ, List.getElem?_cons_zero, List.set_cons_succ, List.set_cons_zero, bind_ok, ofO_some, fz_int, fz_ref, fz_lst, fz_new, fz_tup, fz_scr, truth_bl, bop_add, bop_sub, sat_bind, sat_ok]
    exact ⟨_, rfl, 17 + a, 29 + b, 72 + c, 17 + d, by omega, by omega, by omega, by omega, hs, by have := ka.1; have := kb.1; have := kc.1; have := kd.1; omega, rfl⟩
  rintro ρ cs ⟨a, b, c, d, ha, hb, hc, hd, hs, hl3, rfl⟩
  refine step b_law 2 rfl (fun ρ cs => ∃ (w2 : W) (p : Int), Prim p ∧ Sr cs ∧ cs.length = 3 ∧ ρ = [some (.scr (nums ns)), some (.ref 2), some w2, some (.int p), none, none, none, none, none, none, none, none, none, none, none, none, none, none]) ?_ ?_
  · refine sat_set ?_
    simp only [ev_bin, ev_cmp, ev_list, ev_tuple, ev_callH, ev_callP, ev_callPK, ev_blt, ev_sub, ev_neg, ev_not, ev_or, ev_int, ev_bl, ev_var, ev_cel, ev_listJ, ev_meth, ev_sortS, evs_cons, evs_nil, List.getElem?_cons_succ, List.getElem?_cons_zero, List.set_cons_succ, List.set_cons_zero, bind_ok, ofO_some, fz_int, fz_ref, fz_lst, fz_new, fz_tup, fz_scr, truth_bl, bop_add, bop_sub, sat_bind, sat_ok]
    refine (c_draw (k + 5) hs (by decide) (by decide)).mono fun w cv z => ?_
    obtain ⟨v, rfl, v0, v1, hs, kv⟩ := z
    obtain ⟨x, e1, hx⟩ := at_four (a := a) (b := b) (c := c) (d := d) v0 v1
    obtain ⟨p, hp, e2⟩ := p_law_prime (k + 5) (s := x) (by omega) (by omega)
    have e3 := e2.call (cs := cv) (ws := [.int x]) (by simp)
    simp only [ev_bin, ev_cmp, ev_list, ev_tuple, ev_callH, ev_callP, ev_callPK, ev_blt, ev_sub, ev_neg, ev_not, ev_or, ev_int, ev_bl, ev_var, ev_cel, ev_listJ, ev_meth, ev_sortS, evs_cons, evs_nil, List.getElem?_cons_succ, List.getElem?_cons_zero, List.set_cons_succ, List.set_cons_zero, bind_ok, ofO_some, fz_int, fz_ref, fz_lst, fz_new, fz_tup, fz_scr, truth_bl, bop_add, bop_sub, sat_bind, sat_ok, subW, items_lst, e1, e3]
    exact ⟨_, rfl, _, p, hp, hs, by have := kv.1; omega, rfl⟩
  rintro ρ cs ⟨w2, p, hp, hs, hl3, rfl⟩
  refine step b_law 3 rfl (fun ρ cs => ∃ (m : Nat), m ≤ 12 ∧ Sr cs ∧ cs.length = 3 ∧ ρ = [some (.scr (nums ns)), some (.ref 2), some w2, some (.int p), some (.int m), none, none, none, none, none, none, none, none, none, none, none, none, none]) ?_ ?_
  · refine sat_set ?_
    simp only [ev_bin, ev_cmp, ev_list, ev_tuple, ev_callH, ev_callP, ev_callPK, ev_blt, ev_sub, ev_neg, ev_not, ev_or, ev_int, ev_bl, ev_var, ev_cel, ev_listJ, ev_meth, ev_sortS, evs_cons, evs_nil, List.getElem?_cons_succ, List.getElem?_cons_zero, List.set_cons_succ, List.set_cons_zero, bind_ok, ofO_some, fz_int, fz_ref, fz_lst, fz_new, fz_tup, fz_scr, truth_bl, bop_add, bop_sub, sat_bind, sat_ok]
    refine (c_draw (k + 5) hs (by decide) (by decide)).mono fun w cu z => ?_
    obtain ⟨u, rfl, u0, u1, hs, ku⟩ := z
    simp only [ev_bin, ev_cmp, ev_list, ev_tuple, ev_callH, ev_callP, ev_callPK, ev_blt, ev_sub, ev_neg, ev_not, ev_or, ev_int, ev_bl, ev_var, ev_cel, ev_listJ, ev_meth, ev_sortS, evs_cons, evs_nil, List.getElem?_cons_succ, List.getElem?_cons_zero, List.set_cons_succ, List.set_cons_zero, bind_ok, ofO_some, fz_int, fz_ref, fz_lst, fz_new, fz_tup, fz_scr, truth_bl, bop_add, bop_sub, sat_bind, sat_ok]
    rw [mkNew_ok (by simp)]
    simp only [ev_bin, ev_cmp, ev_list, ev_tuple, ev_callH, ev_callP, ev_callPK, ev_blt, ev_sub, ev_neg, ev_not, ev_or, ev_int, ev_bl, ev_var, ev_cel, ev_listJ, ev_meth, ev_sortS, evs_cons, evs_nil, List.getElem?_cons_succ, List.getElem?_cons_zero, List.set_cons_succ, List.set_cons_zero, bind_ok, ofO_some, fz_int, fz_ref, fz_lst, fz_new, fz_tup, fz_scr, truth_bl, bop_add, bop_sub, sat_bind, sat_ok]
    refine (c_draw (k + 5) hs (by decide) (by decide)).mono fun w cv z => ?_
    obtain ⟨v, rfl, v0, v1, hs, kv⟩ := z
    obtain ⟨x, e1, hx⟩ := at_four (a := 0) (b := 1) (c := 12) (d := u) v0 v1
    simp only [ev_bin, ev_cmp, ev_list, ev_tuple, ev_callH, ev_callP, ev_callPK, ev_blt, ev_sub, ev_neg, ev_not, ev_or, ev_int, ev_bl, ev_var, ev_cel, ev_listJ, ev_meth, ev_sortS, evs_cons, evs_nil, List.getElem?_cons_succ, List.getElem?_cons_zero, List.set_cons_succ, List.set_cons_zero, bind_ok, ofO_some, fz_int, fz_ref, fz_lst, fz_new, fz_tup, fz_scr, truth_bl, bop_add, bop_sub, sat_bind, sat_ok, subW, items_new, e1]
    obtain ⟨m, rfl⟩ : ∃ m : Nat, x = m := ⟨x.toNat, by omega⟩
    exact ⟨_, rfl, m, by omega, hs, by have := kv.1; have := ku.1; omega, rfl⟩
  rintro ρ cs ⟨m, hm, hs, hl3, rfl⟩
  refine step b_law 4 rfl (M5 (.scr (nums ns))) ?_ h
  refine sat_set ?_
  simp only [ev_bin, ev_cmp, ev_list, ev_tuple, ev_callH, ev_callP, ev_callPK, ev_blt, ev_sub, ev_neg, ev_not, ev_or, ev_int, ev_bl, ev_var, ev_cel, ev_listJ, ev_meth, ev_sortS, evs_cons, evs_nil, List.getElem?_cons_succ, List.getElem?_cons_zero, List.set_cons_succ, List.set_cons_zero, bind_ok, ofO_some, fz_int, fz_ref, fz_lst, fz_new, fz_tup, fz_scr, truth_bl, bop_add, bop_sub, sat_bind, sat_ok]
  exact ⟨_, rfl, p, m, w2, hp, hm, hs, hl3, rfl⟩

theorem bop_addL {cs : List Ob} {n : Nat} {xs ys : List W} (h : cellL cs n = some xs) : bop .add (.ref n) (.lst ys) cs = mkNew (xs ++ ys) cs := by
  show (match itemsL cs (.ref n), itemsL cs (.lst ys) with
    | some xs, some ys => mkNew (xs ++ ys) cs
    | _, _ => .bad) = _
  rw [itemsL_ref, itemsL_lst, h]
theorem sr_cell {cs cs1 : List Ob} (h : Sr cs) (h1 : cellL cs1 1 = cellL cs 1) (h2 : cellL cs1 2 = cellL cs 2) : Sr cs1 := by
  obtain ⟨st, ct, L, c2, c1, s0, s1⟩ := h
  exact ⟨st, ct, L, h2.trans c2, h1.trans c1, s0, s1⟩
/-- behind thirteen steps -/
def M13 (sc : W) (ρ : ME) (cs : List Ob) : Prop := ∃ (p : Int) (m : Nat) (w2 w7 w8 w9 w10 : W) (X Y R : List Int), Prim p ∧ m ≤ 12 ∧ Sr cs ∧ items cs w9 = some (nums X) ∧ items cs w10 = some (nums Y) ∧ fz w9 = w9 ∧ fz w10 = w10 ∧ (X ++ Y ++ R).Perm (upto (p - 12).toNat) ∧ X.length ≤ 60 ∧ Y.length ≤ 60 ∧
  ρ = [some sc, some (.ref 2), some w2, some (.int p), some (.int m), some (.int (p - 12)), some (.ref 3), some w7, some w8, some w9, some w10, none, none, none, none, none, none, none]
theorem law_13 (k : Nat) {sc : W} {ρ : ME} {cs : List Ob} {Q : Fl → List Ob → Prop} (h5 : M5 sc ρ cs) (h : ∀ ρ cs, M13 sc ρ cs → Sat (runs (OO (k + 6)) (drop 13 b_law) ρ cs) Q) :
    Sat (runs (OO (k + 6)) (drop 5 b_law) ρ cs) Q := by
  obtain ⟨p, m, w2, hp, hm, hs, hl3, rfl⟩ := h5
  have hp1 := hp.lo
  have hp2 := hp.hi
  refine step b_law 5 rfl (fun ρ cs => Sr cs ∧ cs.length = 4 ∧ cellL cs 3 = some (nums (upto (p - 12).toNat)) ∧ ρ = [some sc, some (.ref 2), some w2, some (.int p), some (.int m), some (.int (p - 12)), some (.ref 3), none, none, none, none, none, none, none, none, none, none, none]) ?_ ?_
  · refine sat_set ?_
    have e1 : rangeW (.int 0) (.int (p - 12)) = some (nums (upto (p - 12).toNat)) := by
      rw [rangeW_eq rfl (okR_of (by omega) (by omega)), Int.sub_zero, range_upto]
    simp only [ev_bin, ev_cmp, ev_list, ev_tuple, ev_callH, ev_callP, ev_callPK, ev_blt, ev_sub, ev_neg, ev_not, ev_or, ev_int, ev_bl, ev_var, ev_cel, ev_listJ, ev_meth, ev_sortS, evs_cons, evs_nil, List.getElem?_cons_succ, List.getElem?_cons_zero, List.set_cons_succ, List.set_cons_zero, bind_ok, ofO_some, fz_int, fz_ref, fz_lst, fz_new, fz_tup, fz_scr, truth_bl, bop_add, bop_sub, sat_bind, sat_ok, e1, hl3]
    refine ⟨_, rfl, sr_cell hs (cellL_app (by omega)) (cellL_app (by omega)), by simp; omega, ?_, rfl⟩
    rw [← hl3]
    exact cellL_end
  rintro ρ cs ⟨hs, hl4, c3, rfl⟩
  refine step b_law 6 rfl (fun ρ cs => Sr cs ∧ cs.length = 4 ∧ cellL cs 3 = some (nums (upto (p - 12).toNat)) ∧ ρ = [some sc, some (.ref 2), some w2, some (.int p), some (.int m), some (.int (p - 12)), some (.ref 3), some (.lst []), none, none, none, none, none, none, none, none, none, none]) ?_ ?_
  · refine sat_set ?_
    have e1 : mkNew [] cs = .ok (.new []) cs := mkNew_ok (by simp)
    simp only [ev_bin, ev_cmp, ev_list, ev_tuple, ev_callH, ev_callP, ev_callPK, ev_blt, ev_sub, ev_neg, ev_not, ev_or, ev_int, ev_bl, ev_var, ev_cel, ev_listJ, ev_meth, ev_sortS, evs_cons, evs_nil, List.getElem?_cons_succ, List.getElem?_cons_zero, List.set_cons_succ, List.set_cons_zero, bind_ok, ofO_some, fz_int, fz_ref, fz_lst, fz_new, fz_tup, fz_scr, truth_bl, bop_add, bop_sub, sat_bind, sat_ok, e1]
    exact ⟨_, rfl, hs, hl4, c3, rfl⟩
  rintro ρ cs ⟨hs, hl4, c3, rfl⟩
  refine step b_law 7 rfl (fun ρ cs => ∃ Bo R : List Int, Sr cs ∧ cs.length = 4 ∧ cellL cs 3 = some (nums R) ∧ (Bo ++ R).Perm (upto (p - 12).toNat) ∧ Bo.length ≤ 2 ∧ ρ = [some sc, some (.ref 2), some w2, some (.int p), some (.int m), some (.int (p - 12)), some (.ref 3), some (.lst (nums Bo)), none, none, none, none, none, none, none, none, none, none]) ?_ ?_
  · refine sat_if ?_
    simp only [ev_bin, ev_cmp, ev_list, ev_tuple, ev_callH, ev_callP, ev_callPK, ev_blt, ev_sub, ev_neg, ev_not, ev_or, ev_int, ev_bl, ev_var, ev_cel, ev_listJ, ev_meth, ev_sortS, evs_cons, evs_nil, List.getElem?_cons_succ, List.getElem?_cons_zero, List.set_cons_succ, List.set_cons_zero, bind_ok, ofO_some, fz_int, fz_ref, fz_lst, fz_new, fz_tup, fz_scr, truth_bl, bop_add, bop_sub, sat_bind, sat_ok]
    refine (c_draw (k + 5) hs (by decide) (by decide)).mono fun w cv z => ?_
    obtain ⟨v, rfl, v0, v1, hs, kv⟩ := z
    have c3' : cellL cv 3 = some (nums (upto (p - 12).toNat)) := by rw [kv.cell (by decide) (by decide)]; exact c3
    simp only [ev_bin, ev_cmp, ev_list, ev_tuple, ev_callH, ev_callP, ev_callPK, ev_blt, ev_sub, ev_neg, ev_not, ev_or, ev_int, ev_bl, ev_var, ev_cel, ev_listJ, ev_meth, ev_sortS, evs_cons, evs_nil, List.getElem?_cons_succ, List.getElem?_cons_zero, List.set_cons_succ, List.set_cons_zero, bind_ok, ofO_some, fz_int, fz_ref, fz_lst, fz_new, fz_tup, fz_scr, truth_bl, bop_add, bop_sub, sat_bind, sat_ok, cop_eq_int]
    have hl4' : cv.length = 4 := by have := kv.1; omega
    cases (v == 1) with
    | false => exact sat_nil ⟨_, rfl, [], _, hs, hl4', c3', List.Perm.refl _, by simp, rfl⟩
    | true =>
        have hn : (p - 12).toNat = (p - 12).toNat - 1 + 1 := by omega
        have hu : upto (p - 12).toNat = 0 :: (upto (p - 12).toNat).tail := by
          rw [hn]
          simp [upto, List.range_succ_eq_map]
        have hul : (upto (p - 12).toNat).length = (p - 12).toNat := by simp [upto]
        rcases snoc_or (upto (p - 12).toNat).tail with e | ⟨N, b, e⟩
        · rw [e] at hu
          have := congrArg List.length hu
          rw [hul] at this
          simp at this
          omega
        · rw [e] at hu
          rw [hu] at c3' ⊢
          have e1 : meth .popAt (.ref 3) [.int 0] cv = .ok (.int 0) (cv.set 3 (.lst (nums (N ++ [b])))) := meth_popAt (i := 0) c3' rfl
          have c4 : cellL (cv.set 3 (.lst (nums (N ++ [b])))) 3 = some (nums N ++ [.int b]) := by rw [cellL_same (by omega), nums_snoc]
          have e2 := meth_pop c4
          refine sat_cons (sat_set ?_)
          simp only [ev_bin, ev_cmp, ev_list, ev_tuple, ev_callH, ev_callP, ev_callPK, ev_blt, ev_sub, ev_neg, ev_not, ev_or, ev_int, ev_bl, ev_var, ev_cel, ev_listJ, ev_meth, ev_sortS, evs_cons, evs_nil, List.getElem?_cons_succ, List.getElem?_cons_zero, List.set_cons_succ, List.set_cons_zero, bind_ok, ofO_some, fz_int, fz_ref, fz_lst, fz_new, fz_tup, fz_scr, truth_bl, bop_add, bop_sub, sat_bind, sat_ok, isCell_ref, c3', Option.isSome_some, if_true, e1, c4, e2]
          rw [mkNew_ok (by simp)]
          simp only [ev_bin, ev_cmp, ev_list, ev_tuple, ev_callH, ev_callP, ev_callPK, ev_blt, ev_sub, ev_neg, ev_not, ev_or, ev_int, ev_bl, ev_var, ev_cel, ev_listJ, ev_meth, ev_sortS, evs_cons, evs_nil, List.getElem?_cons_succ, List.getElem?_cons_zero, List.set_cons_succ, List.set_cons_zero, bind_ok, ofO_some, fz_int, fz_ref, fz_lst, fz_new, fz_tup, fz_scr, truth_bl, bop_add, bop_sub, sat_bind, sat_ok]
          refine sat_nil ⟨_, rfl, [0, b], N, sr_cell hs ?_ ?_, by simp; omega, cellL_same (by simp; omega), ?_, by simp, rfl⟩
          · rw [cellL_other (by decide), cellL_other (by decide)]
          · rw [cellL_other (by decide), cellL_other (by decide)]
          · refine List.Perm.cons 0 ?_
            exact (List.perm_append_comm (l₁ := [b]) (l₂ := N))
  rintro ρ cs ⟨Bo, R, hs, hl4, c3, hP, hBo, rfl⟩
  refine step b_law 8 rfl (fun ρ cs => ∃ u v : Int, Sr cs ∧ cs.length = 4 ∧ cellL cs 3 = some (nums R) ∧ 0 ≤ u ∧ u < 30 ∧ 0 ≤ v ∧ v < 30 ∧ ρ = [some sc, some (.ref 2), some w2, some (.int p), some (.int m), some (.int (p - 12)), some (.ref 3), some (.lst (nums Bo)), some (.lst [.int u, .int v]), none, none, none, none, none, none, none, none, none]) ?_ ?_
  · refine sat_set ?_
    have en : ∀ cs, mkNew [.int 4, .int 9, .int 30] cs = .ok (.new [.int 4, .int 9, .int 30]) cs := fun cs => mkNew_ok (by simp)
    simp only [ev_bin, ev_cmp, ev_list, ev_tuple, ev_callH, ev_callP, ev_callPK, ev_blt, ev_sub, ev_neg, ev_not, ev_or, ev_int, ev_bl, ev_var, ev_cel, ev_listJ, ev_meth, ev_sortS, evs_cons, evs_nil, List.getElem?_cons_succ, List.getElem?_cons_zero, List.set_cons_succ, List.set_cons_zero, bind_ok, ofO_some, fz_int, fz_ref, fz_lst, fz_new, fz_tup, fz_scr, truth_bl, bop_add, bop_sub, sat_bind, sat_ok, en]
    refine (c_draw (k + 5) hs (by decide) (by decide)).mono fun w ca z => ?_
    obtain ⟨a, rfl, a0, a1, hs, ka⟩ := z
    obtain ⟨x, e1, hx⟩ := at_three (a := 4) (b := 9) (c := 30) a0 a1
    simp only [ev_bin, ev_cmp, ev_list, ev_tuple, ev_callH, ev_callP, ev_callPK, ev_blt, ev_sub, ev_neg, ev_not, ev_or, ev_int, ev_bl, ev_var, ev_cel, ev_listJ, ev_meth, ev_sortS, evs_cons, evs_nil, List.getElem?_cons_succ, List.getElem?_cons_zero, List.set_cons_succ, List.set_cons_zero, bind_ok, ofO_some, fz_int, fz_ref, fz_lst, fz_new, fz_tup, fz_scr, truth_bl, bop_add, bop_sub, sat_bind, sat_ok, subW, items_new, e1]
    refine (c_draw (k + 5) hs (by omega) (by omega)).mono fun w cu z => ?_
    obtain ⟨u, rfl, u0, u1, hs, ku⟩ := z
    simp only [ev_bin, ev_cmp, ev_list, ev_tuple, ev_callH, ev_callP, ev_callPK, ev_blt, ev_sub, ev_neg, ev_not, ev_or, ev_int, ev_bl, ev_var, ev_cel, ev_listJ, ev_meth, ev_sortS, evs_cons, evs_nil, List.getElem?_cons_succ, List.getElem?_cons_zero, List.set_cons_succ, List.set_cons_zero, bind_ok, ofO_some, fz_int, fz_ref, fz_lst, fz_new, fz_tup, fz_scr, truth_bl, bop_add, bop_sub, sat_bind, sat_ok, en]
    refine (c_draw (k + 5) hs (by decide) (by decide)).mono fun w cb z => ?_
    obtain ⟨b, rfl, b0, b1, hs, kb⟩ := z
    obtain ⟨y, e2, hy⟩ := at_three (a := 4) (b := 9) (c := 30) b0 b1
    simp only [ev_bin, ev_cmp, ev_list, ev_tuple, ev_callH, ev_callP, ev_callPK, ev_blt, ev_sub, ev_neg, ev_not, ev_or, ev_int, ev_bl, ev_var, ev_cel, ev_listJ, ev_meth, ev_sortS, evs_cons, evs_nil, List.getElem?_cons_succ, List.getElem?_cons_zero, List.set_cons_succ, List.set_cons_zero, bind_ok, ofO_some, fz_int, fz_ref, fz_lst, fz_new, fz_tup, fz_scr, truth_bl, bop_add, bop_sub, sat_bind, sat_ok, subW, items_new, e2]
    refine (c_draw (k + 5) hs (by omega) (by omega)).mono fun w cv z => ?_
    obtain ⟨v, rfl, v0, v1, hs, kv⟩ := z
    simp only [ev_bin, ev_cmp, ev_list, ev_tuple, ev_callH, ev_callP, ev_callPK, ev_blt, ev_sub, ev_neg, ev_not, ev_or, ev_int, ev_bl, ev_var, ev_cel, ev_listJ, ev_meth, ev_sortS, evs_cons, evs_nil, List.getElem?_cons_succ, List.getElem?_cons_zero, List.set_cons_succ, List.set_cons_zero, bind_ok, ofO_some, fz_int, fz_ref, fz_lst, fz_new, fz_tup, fz_scr, truth_bl, bop_add, bop_sub, sat_bind, sat_ok]
    rw [mkNew_ok (by simp)]
    simp only [ev_bin, ev_cmp, ev_list, ev_tuple, ev_callH, ev_callP, ev_callPK, ev_blt, ev_sub, ev_neg, ev_not, ev_or, ev_int, ev_bl, ev_var, ev_cel, ev_listJ, ev_meth, ev_sortS, evs_cons, evs_nil, List.getElem?_cons_succ, List.getElem?_cons_zero, List.set_cons_succ, List.set_cons_zero, bind_ok, ofO_some, fz_int, fz_ref, fz_lst, fz_new, fz_tup, fz_scr, truth_bl, bop_add, bop_sub, sat_bind, sat_ok]
    have kk := ((ka.trans ku).trans kb).trans kv
    exact ⟨_, rfl, u, v, hs, by have := kk.1; omega, by rw [kk.cell (by decide) (by decide)]; exact c3, u0, by omega, v0, by omega, rfl⟩
  rintro ρ cs ⟨u, v, hs, hl4, c3, u0, u1, v0, v1, rfl⟩
  refine step b_law 9 rfl (fun ρ cs => ∃ u v : Int, Sr cs ∧ cs.length = 4 ∧ cellL cs 3 = some (nums R) ∧ 0 ≤ u ∧ u ≤ 58 ∧ 0 ≤ v ∧ v ≤ 58 ∧ ρ = [some sc, some (.ref 2), some w2, some (.int p), some (.int m), some (.int (p - 12)), some (.ref 3), some (.lst (nums Bo)), some (.lst [.int u, .int v]), none, none, none, none, none, none, none, none, none]) ?_ ?_
  · refine sat_if ?_
    simp only [ev_bin, ev_cmp, ev_list, ev_tuple, ev_callH, ev_callP, ev_callPK, ev_blt, ev_sub, ev_neg, ev_not, ev_or, ev_int, ev_bl, ev_var, ev_cel, ev_listJ, ev_meth, ev_sortS, evs_cons, evs_nil, List.getElem?_cons_succ, List.getElem?_cons_zero, List.set_cons_succ, List.set_cons_zero, bind_ok, ofO_some, fz_int, fz_ref, fz_lst, fz_new, fz_tup, fz_scr, truth_bl, bop_add, bop_sub, sat_bind, sat_ok]
    refine (c_draw (k + 5) hs (by decide) (by decide)).mono fun w ca z => ?_
    obtain ⟨a, rfl, a0, a1, hs, ka⟩ := z
    have c3' : cellL ca 3 = some (nums R) := by rw [ka.cell (by decide) (by decide)]; exact c3
    have hl4' : ca.length = 4 := by have := ka.1; omega
    simp only [ev_bin, ev_cmp, ev_list, ev_tuple, ev_callH, ev_callP, ev_callPK, ev_blt, ev_sub, ev_neg, ev_not, ev_or, ev_int, ev_bl, ev_var, ev_cel, ev_listJ, ev_meth, ev_sortS, evs_cons, evs_nil, List.getElem?_cons_succ, List.getElem?_cons_zero, List.set_cons_succ, List.set_cons_zero, bind_ok, ofO_some, fz_int, fz_ref, fz_lst, fz_new, fz_tup, fz_scr, truth_bl, bop_add, bop_sub, sat_bind, sat_ok, cop_eq_int]
    cases (a == 0) with
    | false => exact sat_nil ⟨_, rfl, u, v, hs, hl4', c3', u0, by omega, v0, by omega, rfl⟩
    | true =>
        refine sat_cons (sat_set ?_)
        have en : mkNew [.int 58, .int 0] ca = .ok (.new [.int 58, .int 0]) ca := mkNew_ok (by simp)
        simp only [ev_bin, ev_cmp, ev_list, ev_tuple, ev_callH, ev_callP, ev_callPK, ev_blt, ev_sub, ev_neg, ev_not, ev_or, ev_int, ev_bl, ev_var, ev_cel, ev_listJ, ev_meth, ev_sortS, evs_cons, evs_nil, List.getElem?_cons_succ, List.getElem?_cons_zero, List.set_cons_succ, List.set_cons_zero, bind_ok, ofO_some, fz_int, fz_ref, fz_lst, fz_new, fz_tup, fz_scr, truth_bl, bop_add, bop_sub, sat_bind, sat_ok, en]
        exact sat_nil ⟨_, rfl, 58, 0, hs, hl4', c3', by decide, by decide, by decide, by decide, rfl⟩
  rintro ρ cs ⟨u, v, hs, hl4, c3, u0, u1, v0, v1, rfl⟩
  have hRl : Bo.length + R.length = (p - 12).toNat := by
    have := hP.length_eq
    rw [List.length_append] at this
    simpa [upto] using this
  refine step b_law 10 rfl (fun ρ cs => ∃ A R1 : List Int, Sr cs ∧ cs.length = 5 ∧ cellL cs 4 = some (nums A) ∧ cellL cs 3 = some (nums R1) ∧ (A ++ R1).Perm R ∧ A.length ≤ 58 ∧ ρ = [some sc, some (.ref 2), some w2, some (.int p), some (.int m), some (.int (p - 12)), some (.ref 3), some (.lst (nums Bo)), some (.lst [.int u, .int v]), some (.ref 4), none, none, none, none, none, none, none, none]) ?_ ?_
  · refine sat_set ?_
    have a0 : at? [.int u, .int v] 0 = some (.int u) := rfl
    simp only [ev_bin, ev_cmp, ev_list, ev_tuple, ev_callH, ev_callP, ev_callPK, ev_blt, ev_sub, ev_neg, ev_not, ev_or, ev_int, ev_bl, ev_var, ev_cel, ev_listJ, ev_meth, ev_sortS, evs_cons, evs_nil, List.getElem?_cons_succ, List.getElem?_cons_zero, List.set_cons_succ, List.set_cons_zero, bind_ok, ofO_some, fz_int, fz_ref, fz_lst, fz_new, fz_tup, fz_scr, truth_bl, bop_add, bop_sub, sat_bind, sat_ok, subW, items_lst, a0, blt_len_ref c3, nums_len, blt_min2]
    obtain ⟨c, hc⟩ : ∃ c : Nat, (if (R.length : Int) < u then (R.length : Int) else u) = c := ⟨(if (R.length : Int) < u then (R.length : Int) else u).toNat, by split <;> omega⟩
    have hc' : c ≤ R.length ∧ c ≤ 58 := by split at hc <;> omega
    rw [hc]
    refine (c_taken (k + 4) hs c3 hc'.1 (by omega)).mono fun w cs1 z => ?_
    obtain ⟨rfl, A, R1, c4, c3', hq, hA, hs1, hl5, hk⟩ := z
    rw [hl4] at c4 ⊢
    exact ⟨_, rfl, A, R1, hs1, by omega, c4, c3', hq, by omega, rfl⟩
  rintro ρ cs ⟨A, R1, hs, hl5, c4, c3, hq1, hA, rfl⟩
  have hR1 : A.length + R1.length = R.length := by
    have := hq1.length_eq
    rwa [List.length_append] at this
  refine step b_law 11 rfl (fun ρ cs => ∃ B R2 : List Int, Sr cs ∧ cellL cs 4 = some (nums A) ∧ cellL cs 5 = some (nums B) ∧ (B ++ R2).Perm R1 ∧ B.length ≤ 58 ∧ ρ = [some sc, some (.ref 2), some w2, some (.int p), some (.int m), some (.int (p - 12)), some (.ref 3), some (.lst (nums Bo)), some (.lst [.int u, .int v]), some (.ref 4), some (.ref 5), none, none, none, none, none, none, none]) ?_ ?_
  · refine sat_set ?_
    have a1 : at? [.int u, .int v] 1 = some (.int v) := rfl
    simp only [ev_bin, ev_cmp, ev_list, ev_tuple, ev_callH, ev_callP, ev_callPK, ev_blt, ev_sub, ev_neg, ev_not, ev_or, ev_int, ev_bl, ev_var, ev_cel, ev_listJ, ev_meth, ev_sortS, evs_cons, evs_nil, List.getElem?_cons_succ, List.getElem?_cons_zero, List.set_cons_succ, List.set_cons_zero, bind_ok, ofO_some, fz_int, fz_ref, fz_lst, fz_new, fz_tup, fz_scr, truth_bl, bop_add, bop_sub, sat_bind, sat_ok, subW, items_lst, a1, blt_len_ref c3, nums_len, blt_min2]
    obtain ⟨c, hc⟩ : ∃ c : Nat, (if (R1.length : Int) < v then (R1.length : Int) else v) = c := ⟨(if (R1.length : Int) < v then (R1.length : Int) else v).toNat, by split <;> omega⟩
    have hc' : c ≤ R1.length ∧ c ≤ 58 := by split at hc <;> omega
    rw [hc]
    refine (c_taken (k + 4) hs c3 hc'.1 (by omega)).mono fun w cs1 z => ?_
    obtain ⟨rfl, B, R2, c5, c3', hq, hB, hs1, hl6, hk⟩ := z
    rw [hl5] at c5 ⊢
    exact ⟨_, rfl, B, R2, hs1, by rw [cellL_of (hk 4 (by decide) (by omega))]; exact c4, c5, hq, by omega, rfl⟩
  rintro ρ cs ⟨B, R2, hs, c4, c5, hq2, hB, rfl⟩
  refine step b_law 12 rfl (M13 sc) ?_ h
  refine sat_if ?_
  simp only [ev_bin, ev_cmp, ev_list, ev_tuple, ev_callH, ev_callP, ev_callPK, ev_blt, ev_sub, ev_neg, ev_not, ev_or, ev_int, ev_bl, ev_var, ev_cel, ev_listJ, ev_meth, ev_sortS, evs_cons, evs_nil, List.getElem?_cons_succ, List.getElem?_cons_zero, List.set_cons_succ, List.set_cons_zero, bind_ok, ofO_some, fz_int, fz_ref, fz_lst, fz_new, fz_tup, fz_scr, truth_bl, bop_add, bop_sub, sat_bind, sat_ok]
  refine (c_draw (k + 5) hs (by decide) (by decide)).mono fun w ca z => ?_
  obtain ⟨a, rfl, a0, a1, hs, ka⟩ := z
  have c4' : cellL ca 4 = some (nums A) := by rw [ka.cell (by decide) (by decide)]; exact c4
  have c5' : cellL ca 5 = some (nums B) := by rw [ka.cell (by decide) (by decide)]; exact c5
  have f1 : (A ++ (B ++ R2)).Perm R := (List.Perm.append_left A hq2).trans hq1
  have f2 : (Bo ++ (A ++ (B ++ R2))).Perm (upto (p - 12).toNat) := (List.Perm.append_left Bo f1).trans hP
  simp only [ev_bin, ev_cmp, ev_list, ev_tuple, ev_callH, ev_callP, ev_callPK, ev_blt, ev_sub, ev_neg, ev_not, ev_or, ev_int, ev_bl, ev_var, ev_cel, ev_listJ, ev_meth, ev_sortS, evs_cons, evs_nil, List.getElem?_cons_succ, List.getElem?_cons_zero, List.set_cons_succ, List.set_cons_zero, bind_ok, ofO_some, fz_int, fz_ref, fz_lst, fz_new, fz_tup, fz_scr, truth_bl, bop_add, bop_sub, sat_bind, sat_ok, cop_eq_int]
  cases (a == 1) with
  | true =>
      refine sat_cons (sat_set ?_)
      have e1 : bop .add (.ref 4) (.lst (nums Bo)) ca = .ok (.new (nums (A ++ Bo))) ca := by
        rw [bop_addL c4', nums_app]
        exact mkNew_nums (by simp; omega)
      simp only [ev_bin, ev_cmp, ev_list, ev_tuple, ev_callH, ev_callP, ev_callPK, ev_blt, ev_sub, ev_neg, ev_not, ev_or, ev_int, ev_bl, ev_var, ev_cel, ev_listJ, ev_meth, ev_sortS, evs_cons, evs_nil, List.getElem?_cons_succ, List.getElem?_cons_zero, List.set_cons_succ, List.set_cons_zero, bind_ok, ofO_some, fz_int, fz_ref, fz_lst, fz_new, fz_tup, fz_scr, truth_bl, bop_add, bop_sub, sat_bind, sat_ok, e1]
      refine sat_nil ⟨_, rfl, p, m, _, _, _, _, _, A ++ Bo, B, R2, hp, hm, hs, rfl, by rw [items_ref]; exact c5', rfl, rfl, ?_, by simp; omega, by omega, rfl⟩
      refine List.Perm.trans ?_ f2
      rw [List.append_assoc, List.append_assoc]
      exact (List.perm_append_comm_assoc A Bo (B ++ R2))
  | false =>
      refine sat_cons (sat_set ?_)
      have e1 : bop .add (.ref 5) (.lst (nums Bo)) ca = .ok (.new (nums (B ++ Bo))) ca := by
        rw [bop_addL c5', nums_app]
        exact mkNew_nums (by simp; omega)
      simp only [ev_bin, ev_cmp, ev_list, ev_tuple, ev_callH, ev_callP, ev_callPK, ev_blt, ev_sub, ev_neg, ev_not, ev_or, ev_int, ev_bl, ev_var, ev_cel, ev_listJ, ev_meth, ev_sortS, evs_cons, evs_nil, List.getElem?_cons_succ, List.getElem?_cons_zero, List.set_cons_succ, List.set_cons_zero, bind_ok, ofO_some, fz_int, fz_ref, fz_lst, fz_new, fz_tup, fz_scr, truth_bl, bop_add, bop_sub, sat_bind, sat_ok, e1]
      refine sat_nil ⟨_, rfl, p, m, _, _, _, _, _, A, B ++ Bo, R2, hp, hm, hs, by rw [items_ref]; exact c4', rfl, rfl, rfl, ?_, by omega, by simp; omega, rfl⟩
      refine List.Perm.trans ?_ f2
      have g1 : (A ++ (B ++ Bo) ++ R2).Perm (A ++ (Bo ++ (B ++ R2))) := by
        rw [List.append_assoc, List.append_assoc]
        exact List.Perm.append_left A (List.perm_append_comm_assoc B Bo R2)
      exact g1.trans (List.perm_append_comm_assoc A Bo (B ++ R2))

theorem blt_sorted {cs : List Ob} {a : W} {X : List Int} (h : items cs a = some (nums X)) (hl : X.length ≤ 1000) : blt .sorted [a] cs = .ok (.new (nums (sortI X))) cs := by
  have e : blt .sorted [a] cs = (match (items cs a).bind intsW with
    | some xs => mkNew ((sortI xs).map .int) cs
    | none => .bad) := rfl
  rw [e, h]
  show (match intsW (nums X) with
    | some xs => mkNew ((sortI xs).map .int) cs
    | none => .bad) = _
  rw [intsW_nums]
  exact mkNew_nums (by rw [(So.sortI_perm X).length_eq]; omega)
theorem sort_up {X : List Int} (h : X.Nodup) : Up (sortI X) := by
  have h1 := So.sortI_srt X
  have h2 : (sortI X).Nodup := (So.sortI_perm X).nodup_iff.mpr h
  unfold Up
  exact (h1.and h2).imp fun z => by omega
theorem lot_of {p : Int} {X R : List Int} (h : (X ++ R).Perm (upto (p - 12).toNat)) (hl : X.length ≤ 60) : Lot p (sortI X) := by
  have h1 : (upto (p - 12).toNat).Nodup := (upto_up _).imp fun z => by omega
  have h2 : (X ++ R).Nodup := h.nodup_iff.mpr h1
  refine ⟨sort_up (List.nodup_append.mp h2).1, fun n hn => ?_, by rw [(So.sortI_perm X).length_eq]; exact hl⟩
  have h3 : n ∈ X := (So.sortI_perm X).mem_iff.mp hn
  have h4 := h.mem_iff.mp (List.mem_append_left R h3)
  rw [mem_upto] at h4
  omega
/-- the three lots -/
def M17 (sc : W) (ρ : ME) (cs : List Ob) : Prop := ∃ (p : Int) (m : Nat) (w2 w7 w8 : W) (f s wh : List Int), Prim p ∧ m ≤ 12 ∧ Sr cs ∧ Lot p f ∧ Lot p s ∧ Lot p wh ∧ (s ++ f).Perm wh ∧
  ρ = [some sc, some (.ref 2), some w2, some (.int p), some (.int m), some (.int (p - 12)), some (.ref 3), some w7, some w8, some (tI f), some (tI s), some (tI wh), none, none, none, none, none, none]
theorem law_17 (k : Nat) {sc : W} {ρ : ME} {cs : List Ob} {Q : Fl → List Ob → Prop} (h13 : M13 sc ρ cs) (h : ∀ ρ cs, M17 sc ρ cs → Sat (runs (OO (k + 6)) (drop 17 b_law) ρ cs) Q) :
    Sat (runs (OO (k + 6)) (drop 13 b_law) ρ cs) Q := by
  obtain ⟨p, m, w2, w7, w8, w9, w10, X, Y, R, hp, hm, hs, h9, h10, z9, z10, hP, hX, hY, rfl⟩ := h13
  have hp1 := hp.lo
  have hp2 := hp.hi
  have lX : (sortI X).length = X.length := (So.sortI_perm X).length_eq
  have lY : (sortI Y).length = Y.length := (So.sortI_perm Y).length_eq
  have LX : Lot p (sortI X) := lot_of (R := Y ++ R) (by rw [← List.append_assoc]; exact hP) hX
  have LY : Lot p (sortI Y) := lot_of (R := X ++ R) (by rw [← List.append_assoc]; exact (List.Perm.append_right R List.perm_append_comm).trans hP) hY
  refine step b_law 13 rfl (fun ρ cs => Sr cs ∧ items cs w10 = some (nums Y) ∧ ρ = [some sc, some (.ref 2), some w2, some (.int p), some (.int m), some (.int (p - 12)), some (.ref 3), some w7, some w8, some (tI (sortI X)), some w10, none, none, none, none, none, none, none]) ?_ ?_
  · refine sat_set ?_
    simp only [ev_bin, ev_cmp, ev_list, ev_tuple, ev_callH, ev_callP, ev_callPK, ev_blt, ev_sub, ev_neg, ev_not, ev_or, ev_int, ev_bl, ev_var, ev_cel, ev_listJ, ev_meth, ev_sortS, evs_cons, evs_nil, List.getElem?_cons_succ, List.getElem?_cons_zero, List.set_cons_succ, List.set_cons_zero, bind_ok, ofO_some, fz_int, fz_ref, fz_lst, fz_new, fz_tup, fz_scr, truth_bl, bop_add, bop_sub, sat_bind, sat_ok, z9, blt_sorted h9 (by omega), blt_tuple_lst, mkTup_nums (show (sortI X).length ≤ 100000 by omega)]
    exact ⟨_, rfl, hs, h10, rfl⟩
  rintro ρ cs ⟨hs, h10, rfl⟩
  refine step b_law 14 rfl (fun ρ cs => Sr cs ∧ ρ = [some sc, some (.ref 2), some w2, some (.int p), some (.int m), some (.int (p - 12)), some (.ref 3), some w7, some w8, some (tI (sortI X)), some (tI (sortI Y)), none, none, none, none, none, none, none]) ?_ ?_
  · refine sat_set ?_
    simp only [ev_bin, ev_cmp, ev_list, ev_tuple, ev_callH, ev_callP, ev_callPK, ev_blt, ev_sub, ev_neg, ev_not, ev_or, ev_int, ev_bl, ev_var, ev_cel, ev_listJ, ev_meth, ev_sortS, evs_cons, evs_nil, List.getElem?_cons_succ, List.getElem?_cons_zero, List.set_cons_succ, List.set_cons_zero, bind_ok, ofO_some, fz_int, fz_ref, fz_lst, fz_new, fz_tup, fz_scr, truth_bl, bop_add, bop_sub, sat_bind, sat_ok, z10, blt_sorted h10 (by omega), blt_tuple_lst, mkTup_nums (show (sortI Y).length ≤ 100000 by omega)]
    exact ⟨_, rfl, hs, rfl⟩
  rintro ρ cs ⟨hs, rfl⟩
  refine step b_law 15 rfl (fun ρ cs => Sr cs ∧ ρ = [some sc, some (.ref 2), some w2, some (.int p), some (.int m), some (.int (p - 12)), some (.ref 3), some w7, some w8, some (tI (sortI X)), some (tI (sortI Y)), some (tI (sortI (sortI X ++ sortI Y))), none, none, none, none, none, none]) ?_ ?_
  · refine sat_set ?_
    have e1 : bop .add (tI (sortI X)) (tI (sortI Y)) cs = .ok (tI (sortI X ++ sortI Y)) cs := by
      show mkTup (nums (sortI X) ++ nums (sortI Y)) cs = _
      rw [nums_app]
      exact mkTup_nums (by simp; omega)
    have e2 : blt .sorted [tI (sortI X ++ sortI Y)] cs = .ok (.new (nums (sortI (sortI X ++ sortI Y)))) cs := blt_sorted rfl (by simp; omega)
    simp only [ev_bin, ev_cmp, ev_list, ev_tuple, ev_callH, ev_callP, ev_callPK, ev_blt, ev_sub, ev_neg, ev_not, ev_or, ev_int, ev_bl, ev_var, ev_cel, ev_listJ, ev_meth, ev_sortS, evs_cons, evs_nil, List.getElem?_cons_succ, List.getElem?_cons_zero, List.set_cons_succ, List.set_cons_zero, bind_ok, ofO_some, fz_int, fz_ref, fz_lst, fz_new, fz_tup, fz_scr, truth_bl, bop_add, bop_sub, sat_bind, sat_ok, e1, e2, blt_tuple_lst, mkTup_nums (show (sortI (sortI X ++ sortI Y)).length ≤ 100000 by rw [(So.sortI_perm _).length_eq]; simp; omega)]
    exact ⟨_, rfl, hs, rfl⟩
  rintro ρ cs ⟨hs, rfl⟩
  have hW : (sortI Y ++ sortI X).Perm (sortI (sortI X ++ sortI Y)) := List.perm_append_comm.trans (So.sortI_perm _).symm
  refine step b_law 16 rfl (M17 sc) ?_ h
  refine sat_if ?_
  simp only [ev_bin, ev_cmp, ev_list, ev_tuple, ev_callH, ev_callP, ev_callPK, ev_blt, ev_sub, ev_neg, ev_not, ev_or, ev_int, ev_bl, ev_var, ev_cel, ev_listJ, ev_meth, ev_sortS, evs_cons, evs_nil, List.getElem?_cons_succ, List.getElem?_cons_zero, List.set_cons_succ, List.set_cons_zero, bind_ok, ofO_some, fz_int, fz_ref, fz_lst, fz_new, fz_tup, fz_scr, truth_bl, bop_add, bop_sub, sat_bind, sat_ok, blt_len_tup, nums_len, cop_gt_int]
  by_cases c : (60 : Int) < ((sortI (sortI X ++ sortI Y)).length : Int)
  · rw [decide_eq_true c]
    refine sat_cons (sat_set ?_)
    simp only [ev_bin, ev_cmp, ev_list, ev_tuple, ev_callH, ev_callP, ev_callPK, ev_blt, ev_sub, ev_neg, ev_not, ev_or, ev_int, ev_bl, ev_var, ev_cel, ev_listJ, ev_meth, ev_sortS, evs_cons, evs_nil, List.getElem?_cons_succ, List.getElem?_cons_zero, List.set_cons_succ, List.set_cons_zero, bind_ok, ofO_some, fz_int, fz_ref, fz_lst, fz_new, fz_tup, fz_scr, truth_bl, bop_add, bop_sub, sat_bind, sat_ok]
    refine sat_cons (sat_set ?_)
    have e1 : mkTup [] cs = .ok (tI []) cs := mkTup_ok (by simp)
    simp only [ev_bin, ev_cmp, ev_list, ev_tuple, ev_callH, ev_callP, ev_callPK, ev_blt, ev_sub, ev_neg, ev_not, ev_or, ev_int, ev_bl, ev_var, ev_cel, ev_listJ, ev_meth, ev_sortS, evs_cons, evs_nil, List.getElem?_cons_succ, List.getElem?_cons_zero, List.set_cons_succ, List.set_cons_zero, bind_ok, ofO_some, fz_int, fz_ref, fz_lst, fz_new, fz_tup, fz_scr, truth_bl, bop_add, bop_sub, sat_bind, sat_ok, e1]
    exact sat_nil ⟨_, rfl, p, m, w2, w7, w8, sortI X, [], sortI X, hp, hm, hs, LX, ⟨List.Pairwise.nil, fun _ hn => (nomatch hn), by simp⟩, LX, List.Perm.refl _, rfl⟩
  · rw [decide_eq_false c]
    have hXY : (sortI X ++ sortI Y ++ R).Perm (upto (p - 12).toNat) := by
      refine List.Perm.trans ?_ hP
      exact List.Perm.append_right R ((So.sortI_perm X).append (So.sortI_perm Y))
    have LW : Lot p (sortI (sortI X ++ sortI Y)) := lot_of hXY (by rw [← (So.sortI_perm _).length_eq]; omega)
    exact sat_nil ⟨_, rfl, p, m, w2, w7, w8, sortI X, sortI Y, _, hp, hm, hs, LX, LY, LW, hW, rfl⟩
/-- lots are right, the product -/
def M20 (sc : W) (ρ : ME) (cs : List Ob) : Prop := ∃ (p : Int) (m : Nat) (w2 w7 w8 w9 w10 w11 w13 : W) (o : Option W), Prim p ∧ Sr cs ∧
  ρ = [some sc, some (.ref 2), some w2, some (.int p), some (.int m), some (.int (p - 12)), some (.ref 3), some w7, some w8, some w9, some w10, some w11, o, some w13, none, none, none, none]
def Good (fl : Fl) (cs : List Ob) : Prop := match fl with
  | .ret w => w = .bl true
  | _ => False
theorem law_20 (k : Nat) {sc : W} {ρ : ME} {cs : List Ob} (h17 : M17 sc ρ cs) (h : ∀ ρ cs, M20 sc ρ cs → Sat (runs (OO (k + 6)) (drop 20 b_law) ρ cs) Good) :
    Sat (runs (OO (k + 6)) (drop 17 b_law) ρ cs) Good := by
  obtain ⟨p, m, w2, w7, w8, f, s, wh, hp, hm, hs, Lf, Ls, Lw, hP, rfl⟩ := h17
  have hp1 := hp.lo
  have hp2 := hp.hi
  have nf := Lf.few
  have ns := Ls.few
  have nw := Lw.few
  refine step' b_law 17 rfl ?_
  refine sat_for (xs := [tI f, tI s, tI wh]) (by
    have e1 : mkNew [tI f, tI s, tI wh] cs = .ok (.new [tI f, tI s, tI wh]) cs := mkNew_ok (by simp)
    simp only [evI_ex, ev_list, evs_cons, evs_nil, ev_var, List.getElem?_cons_succ, List.getElem?_cons_zero, bind_ok, fz_tup, e1, srcOf_new, ofO_some]) (I := fun R ρ cs => ∃ o, (∀ x ∈ R, x = tI f ∨ x = tI s ∨ x = tI wh) ∧ Sr cs ∧ ρ = [some sc, some (.ref 2), some w2, some (.int p), some (.int m), some (.int (p - 12)), some (.ref 3), some w7, some w8, some (tI f), some (tI s), some (tI wh), o, none, none, none, none, none]) ?_ ?_ ?_
  · exact ⟨none, by simp, hs, rfl⟩
  · rintro y R ρ cs ⟨o, hR, hs, rfl⟩
    have : ∃ l, y = tI l ∧ Lot p l := by
      rcases hR y (List.mem_cons_self ..) with e | e | e
      · exact ⟨f, e, Lf⟩
      · exact ⟨s, e, Ls⟩
      · exact ⟨wh, e, Lw⟩
    obtain ⟨l, rfl, Ll⟩ := this
    have e1 := (p_lot_right k hp Ll hm).call (cs := cs) (ws := [.int p, tI l, .int m]) (by simp)
    simp only [put_nm, List.set_cons_succ, List.set_cons_zero, fz_tup]
    refine sat_cons (sat_if ?_)
    simp only [ev_bin, ev_cmp, ev_list, ev_tuple, ev_callH, ev_callP, ev_callPK, ev_blt, ev_sub, ev_neg, ev_not, ev_or, ev_int, ev_bl, ev_var, ev_cel, ev_listJ, ev_meth, ev_sortS, evs_cons, evs_nil, List.getElem?_cons_succ, List.getElem?_cons_zero, List.set_cons_succ, List.set_cons_zero, bind_ok, ofO_some, fz_int, fz_ref, fz_lst, fz_new, fz_tup, fz_scr, truth_bl, bop_add, bop_sub, sat_bind, sat_ok, e1, Bool.not_true]
    refine sat_nil ?_
    exact sat_nil ⟨_, fun x hx => hR x (List.mem_cons_of_mem _ hx), hs, rfl⟩
  rintro ρ cs ⟨o, _, hs, rfl⟩
  refine step b_law 18 rfl (fun ρ cs => Sr cs ∧ ρ = [some sc, some (.ref 2), some w2, some (.int p), some (.int m), some (.int (p - 12)), some (.ref 3), some w7, some w8, some (tI f), some (tI s), some (tI wh), o, some (tI (PL p wh)), none, none, none, none]) ?_ ?_
  · refine sat_set ?_
    have e1 := (p_with_roots (k + 2) hp (l := f) (by omega)).call (cs := cs) (ws := [.int p, tI f]) (by simp)
    have e2 := (p_with_roots (k + 2) hp (l := s) (by omega)).call (cs := cs) (ws := permute [tI s, .int p] [1, 0]) (by simp [permute])
    have e3 := (p_times (k + 3) hp (PL_is p f) (PL_is p s) (by rw [PL_len, PL_len]; omega)).call (cs := cs) (ws := [.int p, tI (PL p f), tI (PL p s)]) (by simp)
    rw [PL_perm hP] at e3
    simp only [ev_bin, ev_cmp, ev_list, ev_tuple, ev_callH, ev_callP, ev_callPK, ev_blt, ev_sub, ev_neg, ev_not, ev_or, ev_int, ev_bl, ev_var, ev_cel, ev_listJ, ev_meth, ev_sortS, evs_cons, evs_nil, List.getElem?_cons_succ, List.getElem?_cons_zero, List.set_cons_succ, List.set_cons_zero, bind_ok, ofO_some, fz_int, fz_ref, fz_lst, fz_new, fz_tup, fz_scr, truth_bl, bop_add, bop_sub, sat_bind, sat_ok, e1, e2, e3]
    exact ⟨_, rfl, hs, rfl⟩
  rintro ρ cs ⟨hs, rfl⟩
  refine step b_law 19 rfl (M20 sc) ?_ h
  refine sat_if ?_
  have e1 := (p_law_poly (k + 5) (by omega : 1 < p) hp2 (l := wh) (by omega)).call (cs := cs) (ws := [.int p, tI wh]) (by simp)
  have e2 := (p_same (k + 4) (L := PL p wh) (by rw [PL_len]; omega)).call (cs := cs) (ws := [tI (PL p wh), tI (PL p wh)]) (by simp)
  simp only [ev_bin, ev_cmp, ev_list, ev_tuple, ev_callH, ev_callP, ev_callPK, ev_blt, ev_sub, ev_neg, ev_not, ev_or, ev_int, ev_bl, ev_var, ev_cel, ev_listJ, ev_meth, ev_sortS, evs_cons, evs_nil, List.getElem?_cons_succ, List.getElem?_cons_zero, List.set_cons_succ, List.set_cons_zero, bind_ok, ofO_some, fz_int, fz_ref, fz_lst, fz_new, fz_tup, fz_scr, truth_bl, bop_add, bop_sub, sat_bind, sat_ok, e1, e2, Bool.not_true]
  exact sat_nil ⟨_, rfl, p, m, _, _, _, _, _, _, _, _, hp, hs, rfl⟩

theorem ev_comp {O : Orc} {ρ : ME} {elt : Ex} {t : Tg} {it : It} {c : OEx} {own : List Nat} {cs : List Ob} : ev O ρ (.comp elt t it c own) cs = (evI O ρ it cs).bind fun s cs =>
    (compS (fun x cs => (match put t (fz x) (wipe ρ own) with
      | some ρ' => ((evC O ρ' c cs).bind fun b cs => if b then (ev O ρ' elt cs).bind fun y cs => .ok (some (fz y)) cs else .ok none cs).noX
      | none => .bad)) s cs).bind fun ys cs => mkNew ys cs := by rw [ev] <;> rfl
theorem sat_noX {α : Type} {r : R α} {Q : α → List Ob → Prop} (h : Sat r Q) : Sat r.noX Q := by
  obtain ⟨a, cs, e, q⟩ := h.ex
  rw [e, noX_ok]
  exact .ok q
theorem law_end (k : Nat) {sc : W} {ρ : ME} {cs : List Ob} (h20 : M20 sc ρ cs) : Sat (runs (OO (k + 6)) (drop 20 b_law) ρ cs) Good := by
  obtain ⟨p, m, w2, w7, w8, w9, w10, w11, w13, o, hp, hs, rfl⟩ := h20
  have hp1 := hp.lo
  have hp2 := hp.hi
  refine step b_law 20 rfl (fun ρ cs => ∃ (n : Nat) (T : List Int), 3 ≤ n ∧ Sr cs ∧ cellL cs n = some (nums T) ∧ T.length ≤ 4 ∧ (∀ x ∈ T, 0 ≤ x ∧ x < p) ∧ ρ = [some sc, some (.ref 2), some w2, some (.int p), some (.int m), some (.int (p - 12)), some (.ref 3), some w7, some w8, some w9, some w10, some w11, o, some w13, some (.ref n), none, none, none]) ?_ ?_
  · refine sat_set ?_
    simp only [ev_bin, ev_cmp, ev_list, ev_tuple, ev_callH, ev_callP, ev_callPK, ev_blt, ev_sub, ev_neg, ev_not, ev_or, ev_int, ev_bl, ev_var, ev_cel, ev_listJ, ev_meth, ev_sortS, evs_cons, evs_nil, List.getElem?_cons_succ, List.getElem?_cons_zero, List.set_cons_succ, List.set_cons_zero, bind_ok, ofO_some, fz_int, fz_ref, fz_lst, fz_new, fz_tup, fz_scr, truth_bl, bop_add, bop_sub, sat_bind, sat_ok, ev_comp, evI_range]
    refine (c_draw (k + 5) hs (by decide) (by decide)).mono fun w cv z => ?_
    obtain ⟨v, rfl, v0, v1, hs, kv⟩ := z
    rw [rangeW_eq rfl (okR_of (by omega) (by omega))]
    simp only [ev_bin, ev_cmp, ev_list, ev_tuple, ev_callH, ev_callP, ev_callPK, ev_blt, ev_sub, ev_neg, ev_not, ev_or, ev_int, ev_bl, ev_var, ev_cel, ev_listJ, ev_meth, ev_sortS, evs_cons, evs_nil, List.getElem?_cons_succ, List.getElem?_cons_zero, List.set_cons_succ, List.set_cons_zero, bind_ok, ofO_some, fz_int, fz_ref, fz_lst, fz_new, fz_tup, fz_scr, truth_bl, bop_add, bop_sub, sat_bind, sat_ok, compS]
    refine sat_compGo (fun R ys cs => Sr cs ∧ ∃ T : List Int, ys = nums T ∧ (∀ x ∈ T, 0 ≤ x ∧ x < p) ∧ T.length + R.length ≤ 4) ?_ _ [] cv ⟨hs, [], rfl, fun _ h => (nomatch h), by rw [rangeI_len]; simp; omega⟩ ?_
    · rintro x xs ys cs ⟨hs, T, rfl, hT, hTl⟩
      simp only [put_nm, wipe_cons, wipe_nil]
      refine sat_noX ?_
      rw [evC]
      simp only [bind_ok, if_true]
      simp only [ev_bin, ev_cmp, ev_list, ev_tuple, ev_callH, ev_callP, ev_callPK, ev_blt, ev_sub, ev_neg, ev_not, ev_or, ev_int, ev_bl, ev_var, ev_cel, ev_listJ, ev_meth, ev_sortS, evs_cons, evs_nil, List.getElem?_cons_succ, List.getElem?_cons_zero, List.set_cons_succ, List.set_cons_zero, bind_ok, ofO_some, fz_int, fz_ref, fz_lst, fz_new, fz_tup, fz_scr, truth_bl, bop_add, bop_sub, sat_bind, sat_ok]
      refine (c_draw (k + 5) hs (n := p) (by omega) (by omega)).mono fun w c z => ?_
      obtain ⟨v, rfl, v0, v1, hs, kv⟩ := z
      rw [List.length_cons] at hTl
      refine ⟨hs, T ++ [v], by rw [nums_snoc]; rfl, fun x hx => ?_, by simp; omega⟩
      rcases List.mem_append.mp hx with h | h
      · exact hT x h
      · simp at h; subst h; omega
    · rintro zs c ⟨hs, T, hz, hT, hTl⟩
      rw [List.nil_append] at hz
      subst hz
      rw [mkNew_nums (by simp at hTl; omega)]
      simp only [ev_bin, ev_cmp, ev_list, ev_tuple, ev_callH, ev_callP, ev_callPK, ev_blt, ev_sub, ev_neg, ev_not, ev_or, ev_int, ev_bl, ev_var, ev_cel, ev_listJ, ev_meth, ev_sortS, evs_cons, evs_nil, List.getElem?_cons_succ, List.getElem?_cons_zero, List.set_cons_succ, List.set_cons_zero, bind_ok, ofO_some, fz_int, fz_ref, fz_lst, fz_new, fz_tup, fz_scr, truth_bl, bop_add, bop_sub, sat_bind, sat_ok]
      have l2 : 2 < c.length := by
        obtain ⟨_, _, _, c2, _⟩ := hs
        exact cellL_lt c2
      exact ⟨_, rfl, c.length, T, by omega, sr_cell hs (cellL_app (by omega)) (cellL_app (by omega)), cellL_end, by simpa using hTl, hT, rfl⟩
  rintro ρ cs ⟨n, T, hn, hs, ct, hTl, hT, rfl⟩
  refine step b_law 21 rfl (fun ρ cs => ∃ (T : List Int), cellL cs n = some (nums T) ∧ T.length ≤ 5 ∧ (∀ x ∈ T, 0 ≤ x ∧ x < p) ∧ ρ = [some sc, some (.ref 2), some w2, some (.int p), some (.int m), some (.int (p - 12)), some (.ref 3), some w7, some w8, some w9, some w10, some w11, o, some w13, some (.ref n), none, none, none]) ?_ ?_
  · refine sat_if ?_
    simp only [ev_bin, ev_cmp, ev_list, ev_tuple, ev_callH, ev_callP, ev_callPK, ev_blt, ev_sub, ev_neg, ev_not, ev_or, ev_int, ev_bl, ev_var, ev_cel, ev_listJ, ev_meth, ev_sortS, evs_cons, evs_nil, List.getElem?_cons_succ, List.getElem?_cons_zero, List.set_cons_succ, List.set_cons_zero, bind_ok, ofO_some, fz_int, fz_ref, fz_lst, fz_new, fz_tup, fz_scr, truth_bl, bop_add, bop_sub, sat_bind, sat_ok]
    refine (c_draw (k + 5) hs (by decide) (by decide)).mono fun w cv z => ?_
    obtain ⟨v, rfl, v0, v1, hs, kv⟩ := z
    have ct' : cellL cv n = some (nums T) := by rw [kv.cell (by omega) (by omega)]; exact ct
    simp only [ev_bin, ev_cmp, ev_list, ev_tuple, ev_callH, ev_callP, ev_callPK, ev_blt, ev_sub, ev_neg, ev_not, ev_or, ev_int, ev_bl, ev_var, ev_cel, ev_listJ, ev_meth, ev_sortS, evs_cons, evs_nil, List.getElem?_cons_succ, List.getElem?_cons_zero, List.set_cons_succ, List.set_cons_zero, bind_ok, ofO_some, fz_int, fz_ref, fz_lst, fz_new, fz_tup, fz_scr, truth_bl, bop_add, bop_sub, sat_bind, sat_ok, cop_eq_int]
    cases (v == 1) with
    | false => exact sat_nil ⟨_, rfl, T, ct', by omega, hT, rfl⟩
    | true =>
        refine sat_cons (sat_ex ?_)
        simp only [ev_bin, ev_cmp, ev_list, ev_tuple, ev_callH, ev_callP, ev_callPK, ev_blt, ev_sub, ev_neg, ev_not, ev_or, ev_int, ev_bl, ev_var, ev_cel, ev_listJ, ev_meth, ev_sortS, evs_cons, evs_nil, List.getElem?_cons_succ, List.getElem?_cons_zero, List.set_cons_succ, List.set_cons_zero, bind_ok, ofO_some, fz_int, fz_ref, fz_lst, fz_new, fz_tup, fz_scr, truth_bl, bop_add, bop_sub, sat_bind, sat_ok, isCell_ref, ct', Option.isSome_some, if_true]
        refine (c_draw (k + 5) hs (by decide) (by decide)).mono fun w cu z => ?_
        obtain ⟨u, rfl, u0, u1, hs, ku⟩ := z
        have ct2 : cellL cu n = some (nums T) := by rw [ku.cell (by omega) (by omega)]; exact ct'
        have e1 := meth_append (w := .int (p - 1 - u)) ct2 (by rw [nums_len]; omega)
        simp only [ev_bin, ev_cmp, ev_list, ev_tuple, ev_callH, ev_callP, ev_callPK, ev_blt, ev_sub, ev_neg, ev_not, ev_or, ev_int, ev_bl, ev_var, ev_cel, ev_listJ, ev_meth, ev_sortS, evs_cons, evs_nil, List.getElem?_cons_succ, List.getElem?_cons_zero, List.set_cons_succ, List.set_cons_zero, bind_ok, ofO_some, fz_int, fz_ref, fz_lst, fz_new, fz_tup, fz_scr, truth_bl, bop_add, bop_sub, sat_bind, sat_ok, e1]
        refine sat_nil ⟨_, rfl, T ++ [p - 1 - u], by rw [cellL_same (cellL_lt ct2), nums_snoc], by simp; omega, fun x hx => ?_, rfl⟩
        rcases List.mem_append.mp hx with h | h
        · exact hT x h
        · simp at h; subst h; omega
  rintro ρ cs ⟨T, ct, hTl, hT, rfl⟩
  have hu : Up (sortI (onceI T)) := sort_up (So.onceI_nd T)
  have hm : ∀ x ∈ sortI (onceI T), 0 ≤ x ∧ x < p := fun x hx => hT x ((So.onceI_mem T x).mp ((So.sortI_perm _).mem_iff.mp hx))
  have hl : (sortI (onceI T)).length ≤ 60 := by
    have h1 : (onceI T).length ≤ T.length := by
      clear ct hTl hT hu hm
      induction T with
      | nil => exact Nat.le_refl _
      | cons a T ih =>
          rw [onceI]
          split
          · rw [List.length_cons]; omega
          · rw [List.length_cons, List.length_cons]; omega
    rw [(So.sortI_perm _).length_eq]
    omega
  refine step b_law 22 rfl (fun ρ cs => ∃ (t : List Int), Up t ∧ (∀ x ∈ t, 0 ≤ x ∧ x < p) ∧ t.length ≤ 60 ∧ ρ = [some sc, some (.ref 2), some w2, some (.int p), some (.int m), some (.int (p - 12)), some (.ref 3), some w7, some w8, some w9, some w10, some w11, o, some w13, some (tI t), none, none, none]) ?_ ?_
  · refine sat_set ?_
    have e1 : (itemsL cs (.ref n)).bind intsW = some T := by
      rw [itemsL_ref, ct]
      exact intsW_nums T
    have e2 : (sortI (onceI T)).map W.int = nums (sortI (onceI T)) := rfl
    simp only [ev_bin, ev_cmp, ev_list, ev_tuple, ev_callH, ev_callP, ev_callPK, ev_blt, ev_sub, ev_neg, ev_not, ev_or, ev_int, ev_bl, ev_var, ev_cel, ev_listJ, ev_meth, ev_sortS, evs_cons, evs_nil, List.getElem?_cons_succ, List.getElem?_cons_zero, List.set_cons_succ, List.set_cons_zero, bind_ok, ofO_some, fz_int, fz_ref, fz_lst, fz_new, fz_tup, fz_scr, truth_bl, bop_add, bop_sub, sat_bind, sat_ok, e1, e2, if_pos (show T.length < 64 by omega), blt_tuple_lst, mkTup_nums (show (sortI (onceI T)).length ≤ 100000 by omega)]
    exact ⟨_, rfl, _, hu, hm, hl, rfl⟩
  clear hu hm hl
  rintro ρ cs ⟨t, hu, hm, hl, rfl⟩
  refine step b_law 23 rfl (fun ρ cs => ρ = [some sc, some (.ref 2), some w2, some (.int p), some (.int m), some (.int (p - 12)), some (.ref 3), some w7, some w8, some w9, some w10, some w11, o, some w13, some (tI t), some (tI (PL p t)), none, none]) ?_ ?_
  · refine sat_set ?_
    have e1 := (p_law_poly (k + 5) (by omega : 1 < p) hp2 (l := t) (by omega)).call (cs := cs) (ws := [.int p, tI t]) (by simp)
    simp only [ev_bin, ev_cmp, ev_list, ev_tuple, ev_callH, ev_callP, ev_callPK, ev_blt, ev_sub, ev_neg, ev_not, ev_or, ev_int, ev_bl, ev_var, ev_cel, ev_listJ, ev_meth, ev_sortS, evs_cons, evs_nil, List.getElem?_cons_succ, List.getElem?_cons_zero, List.set_cons_succ, List.set_cons_zero, bind_ok, ofO_some, fz_int, fz_ref, fz_lst, fz_new, fz_tup, fz_scr, truth_bl, bop_add, bop_sub, sat_bind, sat_ok, e1]
    exact ⟨_, rfl, rfl⟩
  rintro ρ cs rfl
  refine step b_law 24 rfl (fun ρ cs => ρ = [some sc, some (.ref 2), some w2, some (.int p), some (.int m), some (.int (p - 12)), some (.ref 3), some w7, some w8, some w9, some w10, some w11, o, some w13, some (tI t), some (tI (PL p t)), some (tI (PL p t)), none]) ?_ ?_
  · refine sat_set ?_
    have e1 := (p_with_roots (k + 2) hp (l := t) (by omega)).call (cs := cs) (ws := [.int p, tI t]) (by simp)
    simp only [ev_bin, ev_cmp, ev_list, ev_tuple, ev_callH, ev_callP, ev_callPK, ev_blt, ev_sub, ev_neg, ev_not, ev_or, ev_int, ev_bl, ev_var, ev_cel, ev_listJ, ev_meth, ev_sortS, evs_cons, evs_nil, List.getElem?_cons_succ, List.getElem?_cons_zero, List.set_cons_succ, List.set_cons_zero, bind_ok, ofO_some, fz_int, fz_ref, fz_lst, fz_new, fz_tup, fz_scr, truth_bl, bop_add, bop_sub, sat_bind, sat_ok, e1]
    exact ⟨_, rfl, rfl⟩
  rintro ρ cs rfl
  refine step b_law 25 rfl (fun ρ cs => ρ = [some sc, some (.ref 2), some w2, some (.int p), some (.int m), some (.int (p - 12)), some (.ref 3), some w7, some w8, some w9, some w10, some w11, o, some w13, some (tI t), some (tI (PL p t)), some (tI (PL p t)), none]) ?_ ?_
  · refine sat_if ?_
    have e1 := (p_same (k + 4) (L := PL p t) (by rw [PL_len]; omega)).call (cs := cs) (ws := [tI (PL p t), tI (PL p t)]) (by simp)
    simp only [ev_bin, ev_cmp, ev_list, ev_tuple, ev_callH, ev_callP, ev_callPK, ev_blt, ev_sub, ev_neg, ev_not, ev_or, ev_int, ev_bl, ev_var, ev_cel, ev_listJ, ev_meth, ev_sortS, evs_cons, evs_nil, List.getElem?_cons_succ, List.getElem?_cons_zero, List.set_cons_succ, List.set_cons_zero, bind_ok, ofO_some, fz_int, fz_ref, fz_lst, fz_new, fz_tup, fz_scr, truth_bl, bop_add, bop_sub, sat_bind, sat_ok, e1, Bool.not_true]
    exact sat_nil ⟨_, rfl, rfl⟩
  rintro ρ cs rfl
  refine step' b_law 26 rfl ?_
  refine sat_for (xs := nums t) (by simp) (I := fun R ρ cs => ∃ (q : Option W) (M : List Int), R = nums M ∧ (∀ x ∈ M, x ∈ t) ∧ ρ = [some sc, some (.ref 2), some w2, some (.int p), some (.int m), some (.int (p - 12)), some (.ref 3), some w7, some w8, some w9, some w10, some w11, o, some w13, some (tI t), some (tI (PL p t)), some (tI (PL p t)), q]) ?_ ?_ ?_
  · exact ⟨none, t, rfl, fun _ h => h, rfl⟩
  · rintro y R ρ cs ⟨q, M, hR, hM, rfl⟩
    cases M with
    | nil => exact nomatch hR
    | cons c M =>
        rw [nums_cons] at hR
        cases hR
        simp only [put_nm, List.set_cons_succ, List.set_cons_zero, fz_int]
        have f1 := (p_value_at (k + 3) hp (L := PL p t) (by rw [PL_len]; omega) c).call (cs := cs) (ws := [.int p, tI (PL p t), .int c]) (by simp)
        rw [V_PL, pv_mem (p := p) (hM c (List.mem_cons_self ..)), Int.zero_emod] at f1
        have f2 := (p_same_int (k + 5) 0).call (cs := cs) (ws := [.int 0, .int 0]) (by simp)
        refine sat_cons (sat_if ?_)
        simp only [ev_bin, ev_cmp, ev_list, ev_tuple, ev_callH, ev_callP, ev_callPK, ev_blt, ev_sub, ev_neg, ev_not, ev_or, ev_int, ev_bl, ev_var, ev_cel, ev_listJ, ev_meth, ev_sortS, evs_cons, evs_nil, List.getElem?_cons_succ, List.getElem?_cons_zero, List.set_cons_succ, List.set_cons_zero, bind_ok, ofO_some, fz_int, fz_ref, fz_lst, fz_new, fz_tup, fz_scr, truth_bl, bop_add, bop_sub, sat_bind, sat_ok, f1, f2, Bool.not_true]
        refine sat_nil ?_
        exact sat_nil ⟨_, M, rfl, fun x hx => hM x (List.mem_cons_of_mem _ hx), rfl⟩
  rintro ρ cs ⟨q, M, _, _, rfl⟩
  refine step' b_law 27 rfl ?_
  refine sat_ret ?_
  have e1 := (p_roots_of (k + 3) hp (L := PL p t) (by rw [PL_len]; omega)).call (cs := cs) (ws := [.int p, tI (PL p t)]) (by simp)
  rw [roots_row hp hu hm] at e1
  have e2 := (p_same (k + 4) (L := t) (by omega)).call (cs := cs) (ws := [tI t, tI t]) (by simp)
  simp only [ev_bin, ev_cmp, ev_list, ev_tuple, ev_callH, ev_callP, ev_callPK, ev_blt, ev_sub, ev_neg, ev_not, ev_or, ev_int, ev_bl, ev_var, ev_cel, ev_listJ, ev_meth, ev_sortS, evs_cons, evs_nil, List.getElem?_cons_succ, List.getElem?_cons_zero, List.set_cons_succ, List.set_cons_zero, bind_ok, ofO_some, fz_int, fz_ref, fz_lst, fz_new, fz_tup, fz_scr, truth_bl, bop_add, bop_sub, sat_bind, sat_ok, blt_len_tup, nums_len, bop_mul (.inl (show -big < p ∧ p < big by unfold big; omega)), cop_gt_int]
  cases decide (4000 < p * (t.length : Int)) with
  | true => 
      simp only [ev_bin, ev_cmp, ev_list, ev_tuple, ev_callH, ev_callP, ev_callPK, ev_blt, ev_sub, ev_neg, ev_not, ev_or, ev_int, ev_bl, ev_var, ev_cel, ev_listJ, ev_meth, ev_sortS, evs_cons, evs_nil, List.getElem?_cons_succ, List.getElem?_cons_zero, List.set_cons_succ, List.set_cons_zero, bind_ok, ofO_some, fz_int, fz_ref, fz_lst, fz_new, fz_tup, fz_scr, truth_bl, bop_add, bop_sub, sat_bind, sat_ok]
      rfl
  | false =>
      simp only [ev_bin, ev_cmp, ev_list, ev_tuple, ev_callH, ev_callP, ev_callPK, ev_blt, ev_sub, ev_neg, ev_not, ev_or, ev_int, ev_bl, ev_var, ev_cel, ev_listJ, ev_meth, ev_sortS, evs_cons, evs_nil, List.getElem?_cons_succ, List.getElem?_cons_zero, List.set_cons_succ, List.set_cons_zero, bind_ok, ofO_some, fz_int, fz_ref, fz_lst, fz_new, fz_tup, fz_scr, truth_bl, bop_add, bop_sub, sat_bind, sat_ok, e1, e2]
      rfl
/-- the law's answer -/
theorem law_true (k : Nat) {ns : List Int} (hl : ns.length ≤ 63) : Sat (C (k + 7) 24 [.scr (nums ns)] []) fun w _ => w = .bl true := by
  rw [C_run at_law]
  refine sat_def (by rfl) ?_
  show Sat (runs (OO (k + 6)) (drop 0 b_law) [some (.scr (nums ns)), none, none, none, none, none, none, none, none, none, none, none, none, none, none, none, none, none] []) _
  refine (law_5 k (Q := Good) hl fun ρ cs h5 => law_13 k h5 fun ρ cs h13 => law_17 k h13 fun ρ cs h17 => law_20 k h17 fun ρ cs h20 => law_end k h20).mono fun fl cs1 z => ?_
  cases fl with
  | ret w => exact z
  | nx ρ => exact z.elim
  | bk ρ => exact z.elim
  | ct ρ => exact z.elim
end K80
end S_K80w

section S_K80z
set_option Elab.async false
set_option linter.all false
theorem PySem.Challenge.cw_everycopy_k80_whole_marks_are_values_holds : PySem.Challenge.rw_everycopy_k80_whole_marks_are_values.Holds := by
  refine K80.holds_of (fuel := 3000) (k := 6) (by decide) fun ns hl => ?_
  obtain ⟨a, cs, e, q⟩ := (K80.law_true 0 hl).ex
  subst q
  exact ⟨cs, e⟩
end S_K80z
