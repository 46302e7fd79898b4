import PyProof.Rows.All
import Wide.All
import OpenK.AllK
import Wide.FinOn
import HandS.ForMost
import HandS.SortInts
import HandS.TupAny
import HandS.TupMul
import HandS.Rev
import HandS.Zip
import HandS.Conv
import HandS.IsInst
import HandS.Exc
import HandS.ExcOwn
import HandS.CallSlots
import HandS.WordsExc
import KE.GoesMore
import HandS.Iter
import HandS.Walk
import HandS.SetFor
import HandS.RevTup
import HandS.Strs
import PyProof.ListNew
import KE.KExcSuper
import HandS.ExcInit
import HandS.ExcField
import HandS.ExcIs
import HandS.Nested
import HandS.HeadWalk
import KE.KIsAll
import KE.KTryMore
import HandS.Words
import HandS.Defaults
import KE.KStateDown
import HandS.Ends
import HandS.Head0
import HandS.Head1
import HandS.Head2
import HandS.HeadEnd
import HandS.HeadHook1
import HandS.HeadHook2
import PySem.Challenge.RW_everycopy_k85_whole_copies_as_numbers
import Lean
section S_Mini
set_option Elab.async false
set_option linter.all false
/-! Mini: a small syntax tree and a functional evaluator on data. -/
namespace Mi
open PySem (Str)

/-- data: a tuple is a tree; lst: a list that nobody changes; new: a list just made; ref: a changeable cell; scr: the script -/
inductive W where
  | non | bl (b : Bool) | int (i : Int) | str (s : Str)
  | tup (xs : List W) | lst (xs : List W) | new (xs : List W) | ref (n : Nat) | scr (xs : List W)
  deriving Inhabited

/-- what a cell holds -/
inductive Ob where
  | lst (xs : List W)
  | ins (c : Nat) (fs : List (Str × W))
  deriving Inhabited

/-- an exception: its class, its fields -/
structure Xn where
  cls : Nat
  fs : List (Str × W)

inductive R (α : Type) where
  | ok (a : α) (cs : List Ob)
  | exn (x : Xn) (cs : List Ob)
  | bad

def R.bind {α β : Type} : R α → (α → List Ob → R β) → R β
  | .ok a cs, f => f a cs
  | .exn x cs, _ => .exn x cs
  | .bad, _ => .bad

/-- without exceptions -/
def R.noX {α : Type} : R α → R α
  | .ok a cs => .ok a cs
  | _ => .bad

def ofO {α : Type} : Option α → List Ob → R α
  | some a, cs => .ok a cs
  | none, _ => .bad

/-! ### the tree -/
inductive Bop where
  | add | sub | mul | fdiv | mod | pow | shl | shr | band | bor | bxor
  deriving DecidableEq
inductive Cop where
  | eq | ne | lt | le | gt | ge | isin | notin | isN | notN
  deriving DecidableEq
/-- built-in functions of values -/
inductive Blt where
  | len | abs | int | max2 | min2 | max1 | min1 | sum | any | all | sorted | list | tuple | lenSet | sortSet | strI
  deriving DecidableEq
/-- methods of lists -/
inductive Mth where
  | append | pop | popAt | extend | remove
  deriving DecidableEq
/-- what isinstance asks -/
inductive Ty where
  | int | bool | str | list | tuple
  deriving DecidableEq
inductive Tg where
  | nm (i : Nat)
  | tp (is : List Nat)

mutual
inductive Ex where
  | var (i : Nat)
  | non | bl (b : Bool) | int (i : Int) | str (s : Str)
  | glob (x : Str)
  | bin (op : Bop) (a b : Ex)
  | neg (a : Ex)
  | not (a : Ex)
  | and (a b : Ex) | or (a b : Ex)
  | cmp (op : Cop) (a b : Ex)
  | chain (op op' : Cop) (a b c : Ex)
  | ifx (c a b : Ex)
  | callP (f : Nat) (args : Exs)
  | callH (f : Nat) (args : Exs)
  | callPK (f : Nat) (args : Exs) (perm : List Nat)
  | callHK (f : Nat) (args : Exs) (perm : List Nat)
  | blt (b : Blt) (args : Exs)
  | listI (a b : Ex) | listJ (a : Ex) | listR (a : Ex) | sortS (a : Ex)
  | meth (m : Mth) (o : Ex) (args : Exs)
  | isi (a : Ex) (t : Ty)
  | sub (a i : Ex)
  | slice (a : Ex) (lo hi : OEx)
  | list (xs : Exs)
  | tuple (xs : Exs)
  | comp (elt : Ex) (t : Tg) (it : It) (cond : OEx) (own : List Nat)
  | comp2 (elt : Ex) (t : Tg) (it : It) (t1 : Tg) (e1 : Ex) (own own1 : List Nat)
  | cel (e : Ex)
inductive Exs where
  | nil | cons (e : Ex) (es : Exs)
inductive OEx where
  | none | some (e : Ex)
inductive It where
  | ex (e : Ex)
  | range (a : Ex)
  | range2 (a b : Ex)
  | enum (e : Ex)
  | zip (a b : Ex)
  | rev (e : Ex)
end

/-! within an except suite: values, tests, statements -/
mutual
inductive Hv where
  | non | bl (b : Bool) | int (i : Int) | str (s : Str)
  | var (i : Nat)
  | fld (f : Str)
  | tup (es : Hvs)
inductive Hvs where
  | nil | cons (e : Hv) (es : Hvs)
end
inductive Ht where
  | isx (ms : List Nat)
  | isv
  | not (a : Ht) | and (a b : Ht) | or (a b : Ht)
mutual
inductive Hst where
  | ret (v : Hv)
  | retb (t : Ht)
  | ife (t : Ht) (a b : Hss)
inductive Hss where
  | nil | cons (s : Hst) (ss : Hss)
end

mutual
inductive S where
  | set (i : Nat) (e : Ex)
  | setC (i : Nat) (e : Ex)
  | setT (t : Tg) (e : Ex)
  | par (i j : Nat) (a b : Ex)
  | setI (o i e : Ex)
  | ex (e : Ex)
  | ret (e : Ex)
  | retN
  | ife (c : Ex) (t e : Ss)
  | for (t : Tg) (it : It) (b : Ss)
  | while (c : Ex) (b : Ss)
  | brk | cnt | pass
  | fail
  | raise (c : Nat) (f : Str) (e : Ex)
  | tryA (wr : List Nat) (b : Ss) (al ms : List Nat) (i : Nat) (h : Hss)
inductive Ss where
  | nil | cons (s : S) (ss : Ss)
end

/-! ### values -/
def lim : Nat := 100000
def fz : W → W
  | .new xs => .lst xs
  | w => w
def isNew : W → Bool
  | .new _ => true
  | _ => false
def cellL (cs : List Ob) (n : Nat) : Option (List W) :=
  match cs[n]? with
  | some (.lst xs) => some xs
  | _ => none
/-- the items of a list or tuple -/
def items (cs : List Ob) : W → Option (List W)
  | .tup xs => some xs
  | .lst xs => some xs
  | .new xs => some xs
  | .scr xs => some xs
  | .ref n => cellL cs n
  | _ => none
/-- the items of a list -/
def itemsL (cs : List Ob) : W → Option (List W)
  | .lst xs => some xs
  | .new xs => some xs
  | .ref n => cellL cs n
  | _ => none
def mkNew (xs : List W) (cs : List Ob) : R W := if xs.length ≤ lim then .ok (.new xs) cs else .bad
def mkTup (xs : List W) (cs : List Ob) : R W := if xs.length ≤ lim then .ok (.tup xs) cs else .bad


def derefL (f : W → Option W) : List W → Option (List W)
  | [] => some []
  | w :: ws => (match f w, derefL f ws with
    | some v, some vs => some (v :: vs)
    | _, _ => none)
/-- without cells and fresh lists: what may leave its heap (k: how deep) -/
def deref (cs : List Ob) : Nat → W → Option W
  | 0, _ => none
  | k + 1, w => (match w with
    | .ref n => (match cellL cs n with
      | some xs => (derefL (deref cs k) xs).map .lst
      | none => none)
    | .tup xs => (derefL (deref cs k) xs).map .tup
    | .lst xs => (derefL (deref cs k) xs).map .lst
    | .new xs => (derefL (deref cs k) xs).map .lst
    | .scr xs => (derefL (deref cs k) xs).map .scr
    | w => some w)
/-- data without any list or cell within -/
def flat : Nat → W → Bool
  | 0, _ => false
  | k + 1, w => (match w with
    | .ref _ => false
    | .tup xs => xs.all (flat k)
    | .lst _ => false
    | .new _ => false
    | .scr _ => false
    | _ => true)
def deep : Nat := 6
/-- what a pure def hands back -/
def handed (cs : List Ob) : W → Option W
  | .ref n => (match cellL cs n with
    | some xs => if xs.all (flat deep) then some (.new xs) else none
    | none => none)
  | .new xs => if xs.all (flat deep) then some (.new xs) else none
  | w => if flat deep w then some w else none

/-! ### operators -/
def big : Int := 18446744073709551616
def mulOk (i j : Int) : Bool := (decide (-big < i) && decide (i < big)) || (decide (-big < j) && decide (j < big))
def bopI : Bop → Int → Int → Option Int
  | .add, i, j => some (i + j)
  | .sub, i, j => some (i - j)
  | .mul, i, j => if mulOk i j then some (i * j) else none
  | .fdiv, i, j => if 0 < j ∧ j < 1073741824 then some (i / j) else none
  | .mod, i, j => if 0 < j then some (i % j) else none
  | .pow, i, j => if 0 ≤ j ∧ j ≤ 1000 ∧ i.natAbs < 1000 then some (i ^ j.toNat) else none
  | .shl, i, j => if 0 ≤ j ∧ j ≤ 1000 ∧ i.natAbs < 1000 then some (i * 2 ^ j.toNat) else none
  | .shr, i, j => if 0 ≤ j then some (i / 2 ^ j.toNat) else none
  | _, _, _ => none
def bop (op : Bop) (a b : W) (cs : List Ob) : R W :=
  match op, a, b with
  | op, .int i, .int j => (match bopI op i j with
    | some k => .ok (.int k) cs
    | none => .bad)
  | .add, .tup xs, .tup ys => mkTup (xs ++ ys) cs
  | .add, a, b => (match itemsL cs a, itemsL cs b with
    | some xs, some ys => mkNew (xs ++ ys) cs
    | _, _ => .bad)
  | .mul, .tup xs, .int j => if 2 ≤ j ∧ j ≤ 1000 ∧ xs.length ≤ 1000 ∧ xs ≠ [] then mkTup (List.replicate j.toNat xs).flatten cs else .bad
  | .mul, a, .int j => (match itemsL cs a with
    | some xs => if j < 1000000 ∧ -1000000 < j then mkNew (List.replicate j.toNat xs).flatten cs else .bad
    | none => .bad)
  | _, _, _ => .bad

mutual
/-- == of data -/
def eqW : W → W → Bool
  | .non, .non => true
  | .bl a, .bl b => a == b
  | .bl a, .int j => (if a then 1 else 0) == j
  | .int i, .bl b => i == (if b then 1 else 0)
  | .int i, .int j => i == j
  | .str x, .str y => x == y
  | .tup xs, .tup ys => eqWs xs ys
  | .lst xs, .lst ys => eqWs xs ys
  | _, _ => false
def eqWs : List W → List W → Bool
  | [], [] => true
  | x :: xs, y :: ys => eqW x y && eqWs xs ys
  | _, _ => false
end
def intsW : List W → Option (List Int)
  | [] => some []
  | .int i :: ws => (intsW ws).map (i :: ·)
  | _ => none
/-- < of rows of numbers -/
def lexI : List Int → List Int → Bool
  | [], [] => false
  | [], _ :: _ => true
  | _ :: _, [] => false
  | a :: as, b :: bs => if a = b then lexI as bs else decide (a < b)
def isFlatW : W → Bool
  | .non => true
  | .bl _ => true
  | .int _ => true
  | .str _ => true
  | _ => false
/-- texts of true signs alone -/
def okW : Nat → W → Bool
  | 0, _ => false
  | k + 1, w => (match w with
    | .str s => s.cps.all (· < 1114112)
    | .tup xs => xs.all (okW k)
    | .lst xs => xs.all (okW k)
    | .new _ => false
    | .ref _ => false
    | .scr _ => false
    | _ => true)
def cop (op : Cop) (a b : W) (cs : List Ob) : Option Bool :=
  match op with
  | .eq => (match deref cs deep a, deref cs deep b with
    | some x, some y => if okW deep x && okW deep y then some (eqW x y) else none
    | _, _ => none)
  | .ne => (match deref cs deep a, deref cs deep b with
    | some x, some y => if okW deep x && okW deep y then some (!eqW x y) else none
    | _, _ => none)
  | .lt => (match a, b with
    | .int i, .int j => some (decide (i < j))
    | .tup xs, .tup ys => (match intsW xs, intsW ys with
      | some ns, some ms => some (lexI ns ms)
      | _, _ => none)
    | _, _ => none)
  | .le => (match a, b with
    | .int i, .int j => some (decide (i ≤ j))
    | _, _ => none)
  | .gt => (match a, b with
    | .int i, .int j => some (decide (j < i))
    | _, _ => none)
  | .ge => (match a, b with
    | .int i, .int j => some (decide (j ≤ i))
    | _, _ => none)
  | .isin => (match items cs b with
    | some ys => if isFlatW a && ys.all isFlatW then some (ys.any fun y => eqW y a) else none
    | none => none)
  | .notin => (match items cs b with
    | some ys => if isFlatW a && ys.all isFlatW then some (!(ys.any fun y => eqW y a)) else none
    | none => none)
  | .isN => (match b with
    | .non => some (match a with
      | .non => true
      | _ => false)
    | _ => none)
  | .notN => (match b with
    | .non => some (match a with
      | .non => false
      | _ => true)
    | _ => none)

/-! ### places -/
def place (n : Nat) (i : Int) : Option Nat := if 0 ≤ i then (if i < n then some i.toNat else none) else if -(n : Int) ≤ i then some (i + n).toNat else none
def at? (xs : List W) (i : Int) : Option W := (place xs.length i).bind fun j => xs[j]?
/-- a slice's bound among n -/
def bound (n d : Nat) : Option Int → Nat
  | none => d
  | some v => if v < 0 then (v + (n : Int)).toNat else min v.toNat n
def cut (xs : List W) (lo hi : Option Int) : List W := (xs.drop (bound xs.length 0 lo)).take (bound xs.length xs.length hi - bound xs.length 0 lo)
def subW (a i : W) (cs : List Ob) : Option W :=
  match i with
  | .int k => (match items cs a with
    | some xs => at? xs k
    | none => none)
  | _ => none
def sliceW (a : W) (lo hi : Option Int) (cs : List Ob) : R W :=
  match a with
  | .tup xs => mkTup (cut xs lo hi) cs
  | .scr xs => mkNew (cut xs lo hi) cs
  | a => (match itemsL cs a with
    | some xs => mkNew (cut xs lo hi) cs
    | none => .bad)

/-! ### built-in functions -/
def blsW : List W → Option (List Bool)
  | [] => some []
  | .bl b :: ws => (blsW ws).map (b :: ·)
  | _ => none
def insI (x : Int) : List Int → List Int
  | [] => [x]
  | y :: ys => if x ≤ y then x :: y :: ys else y :: insI x ys
def sortI : List Int → List Int
  | [] => []
  | x :: xs => insI x (sortI xs)
/-- each once -/
def onceI : List Int → List Int
  | [] => []
  | x :: xs => if xs.contains x then onceI xs else x :: onceI xs
def maxI : Int → List Int → Int
  | m, [] => m
  | m, x :: xs => maxI (if x > m then x else m) xs
def minI : Int → List Int → Int
  | m, [] => m
  | m, x :: xs => minI (if x < m then x else m) xs
def blt (b : Blt) (args : List W) (cs : List Ob) : R W :=
  match b, args with
  | .len, [.str s] => .bad
  | .len, [a] => (match items cs a with
    | some xs => .ok (.int xs.length) cs
    | none => .bad)
  | .abs, [.int i] => .ok (.int (if i < 0 then -i else i)) cs
  | .int, [.int i] => .ok (.int i) cs
  | .int, [.bl b] => .ok (.int (if b then 1 else 0)) cs
  | .max2, [.int i, .int j] => .ok (.int (if j > i then j else i)) cs
  | .min2, [.int i, .int j] => .ok (.int (if j < i then j else i)) cs
  | .max1, [a] => (match (itemsL cs a).bind intsW with
    | some (x :: xs) => .ok (.int (maxI x xs)) cs
    | _ => .bad)
  | .min1, [a] => (match (itemsL cs a).bind intsW with
    | some (x :: xs) => .ok (.int (minI x xs)) cs
    | _ => .bad)
  | .sum, [a] => (match (itemsL cs a).bind intsW with
    | some xs => .ok (.int xs.sum) cs
    | none => .bad)
  | .any, [a] => (match (itemsL cs a).bind blsW with
    | some xs => .ok (.bl (xs.any id)) cs
    | none => .bad)
  | .all, [a] => (match (itemsL cs a).bind blsW with
    | some xs => .ok (.bl (xs.all id)) cs
    | none => .bad)
  | .sorted, [a] => (match (items cs a).bind intsW with
    | some xs => mkNew ((sortI xs).map .int) cs
    | none => .bad)
  | .sortSet, [a] => (match (itemsL cs a).bind intsW with
    | some xs => mkNew ((sortI (onceI xs)).map .int) cs
    | none => .bad)
  | .list, [a] => (match items cs a with
    | some xs => mkNew xs cs
    | none => .bad)
  | .tuple, [a] => (match items cs a with
    | some xs => mkTup xs cs
    | none => .bad)
  | .strI, [.int i] => if i.natAbs.log2 < 1920 then .ok (.str (toString i)) cs else .bad
  | _, _ => .bad
def isiW (t : Ty) (a : W) (cs : List Ob) : Option Bool :=
  match t, a with
  | .int, .int _ => some true
  | .int, .bl _ => some true
  | .int, .non => some false
  | .int, .str _ => some false
  | .int, .tup _ => some false
  | .bool, .bl _ => some true
  | .bool, .int _ => some false
  | .bool, .non => some false
  | .bool, .str _ => some false
  | .bool, .tup _ => some false
  | .str, .str _ => some true
  | .str, .int _ => some false
  | .str, .bl _ => some false
  | .str, .non => some false
  | .str, .tup _ => some false
  | .tuple, .tup _ => some true
  | .tuple, .int _ => some false
  | .tuple, .bl _ => some false
  | .tuple, .non => some false
  | .tuple, .str _ => some false
  | .list, .tup _ => some false
  | .list, .int _ => some false
  | .list, .bl _ => some false
  | .list, .non => some false
  | .list, .str _ => some false
  | t, a => (match itemsL cs a with
    | some _ => some (decide (t = .list))
    | none => none)
def isCell (cs : List Ob) : W → Bool
  | .ref n => (cellL cs n).isSome
  | _ => false
/-- a method of a list that is a cell -/
def meth (m : Mth) (o : W) (args : List W) (cs : List Ob) : R W :=
  match o with
  | .ref n => (match cellL cs n with
    | some xs => (match m, args with
      | .append, [w] => if xs.length < lim then .ok .non (cs.set n (.lst (xs ++ [w]))) else .bad
      | .pop, [] => (match xs[xs.length - 1]? with
        | some y => .ok y (cs.set n (.lst xs.dropLast))
        | none => .bad)
      | .popAt, [.int i] => (match place xs.length i with
        | some k => (match xs[k]? with
          | some y => .ok y (cs.set n (.lst (xs.eraseIdx k)))
          | none => .bad)
        | none => .bad)
      | .extend, [a] => (match itemsL cs a with
        | some ys => if xs.length + ys.length ≤ lim then .ok .non (cs.set n (.lst (xs ++ ys))) else .bad
        | none => .bad)
      | .remove, [.int k] => (match intsW xs with
        | some ns => if ns.contains k then .ok .non (cs.set n (.lst ((ns.eraseIdx (ns.idxOf k)).map .int))) else .bad
        | none => .bad)
      | _, _ => .bad)
    | none => .bad)
  | _ => .bad
/-- o[i] = v -/
def setIdx (o i v : W) (cs : List Ob) : Option (List Ob) :=
  match o, i with
  | .ref n, .int k => (match cellL cs n with
    | some xs => (match place xs.length k with
      | some j => some (cs.set n (.lst (xs.set j v)))
      | none => none)
    | none => none)
  | _, _ => none

/-! ### loops -/
/-- what is walked: items that stand still, or a cell -/
inductive Src where
  | im (xs : List W)
  | ce (n : Nat) (len : Nat)
abbrev Env := List (Option W)
def wipe (ρ : Env) : List Nat → Env
  | [] => ρ
  | i :: is => (wipe ρ is).set i none
def putS : List Nat → List W → Env → Option Env
  | [], [], ρ => some ρ
  | i :: is, w :: ws, ρ => putS is ws (ρ.set i (some w))
  | _, _, _ => none
def put (t : Tg) (w : W) (ρ : Env) : Option Env :=
  match t with
  | .nm i => some (ρ.set i (some w))
  | .tp is => (match w with
    | .tup ws => putS is ws ρ
    | _ => none)
/-- behind a statement -/
inductive Fl where
  | nx (ρ : Env) | ret (w : W) | bk (ρ : Env) | ct (ρ : Env)
def compGo (f : W → List Ob → R (Option W)) : List W → List Ob → R (List W)
  | [], cs => .ok [] cs
  | x :: xs, cs => (f x cs).bind fun o cs => (compGo f xs cs).bind fun ys cs => .ok (match o with
    | some y => y :: ys
    | none => ys) cs
def cat2 (f : W → List Ob → R (List W)) : List W → List Ob → R (List W)
  | [], cs => .ok [] cs
  | x :: xs, cs => (f x cs).bind fun zs cs => (cat2 f xs cs).bind fun ys cs => .ok (zs ++ ys) cs
/-- over a cell: item by item, as it then is; i: the place, k: how many are left -/
def compCe (f : W → List Ob → R (Option W)) (n : Nat) : Nat → Nat → List Ob → R (List W)
  | i, 0, cs => (match cellL cs n with
    | some xs => if xs.length ≤ i then .ok [] cs else .bad
    | none => .bad)
  | i, k + 1, cs => (match cellL cs n with
    | some xs => (match xs[i]? with
      | some x => (f x cs).bind fun o cs => (compCe f n (i + 1) k cs).bind fun ys cs => .ok (match o with
        | some y => y :: ys
        | none => ys) cs
      | none => .bad)
    | none => .bad)
def compS (f : W → List Ob → R (Option W)) : Src → List Ob → R (List W)
  | .im xs, cs => compGo f xs cs
  | .ce n k, cs => compCe f n 0 k cs
def forGo (g : W → Env → List Ob → R Fl) : List W → Env → List Ob → R Fl
  | [], ρ, cs => .ok (.nx ρ) cs
  | x :: xs, ρ, cs => (g x ρ cs).bind fun fl cs => (match fl with
    | .nx ρ' => forGo g xs ρ' cs
    | .ct ρ' => forGo g xs ρ' cs
    | .bk ρ' => .ok (.nx ρ') cs
    | .ret w => .ok (.ret w) cs)
def forCe (g : W → Env → List Ob → R Fl) (n : Nat) : Nat → Nat → Env → List Ob → R Fl
  | i, 0, ρ, cs => (match cellL cs n with
    | some xs => if xs.length ≤ i then .ok (.nx ρ) cs else .bad
    | none => .bad)
  | i, k + 1, ρ, cs => (match cellL cs n with
    | some xs => (match xs[i]? with
      | some x => (g x ρ cs).bind fun fl cs => (match fl with
        | .nx ρ' => forCe g n (i + 1) k ρ' cs
        | .ct ρ' => forCe g n (i + 1) k ρ' cs
        | .bk ρ' => .ok (.nx ρ') cs
        | .ret w => .ok (.ret w) cs)
      | none => .bad)
    | none => .bad)
def forS (g : W → Env → List Ob → R Fl) : Src → Env → List Ob → R Fl
  | .im xs, ρ, cs => forGo g xs ρ cs
  | .ce n k, ρ, cs => forCe g n 0 k ρ cs
def whGo (c : Env → List Ob → R Bool) (g : Env → List Ob → R Fl) : Nat → Env → List Ob → R Fl
  | 0, _, _ => .bad
  | k + 1, ρ, cs => (c ρ cs).bind fun b cs => if b then (g ρ cs).bind fun fl cs => (match fl with
    | .nx ρ' => whGo c g k ρ' cs
    | .ct ρ' => whGo c g k ρ' cs
    | .bk ρ' => .ok (.nx ρ') cs
    | .ret w => .ok (.ret w) cs) else .ok (.nx ρ) cs
def srcOf (cs : List Ob) : W → Option Src
  | .tup xs => some (.im xs)
  | .lst xs => some (.im xs)
  | .new xs => some (.im xs)
  | .scr xs => some (.im xs)
  | .ref n => (cellL cs n).map fun xs => .ce n xs.length
  | _ => none
def rangeI (lo : Int) (n : Nat) : List W := (List.range n).map fun (i : Nat) => .int (lo + (i : Int))
def okR (i : Int) : Bool := decide (-1000000 < i) && decide (i < 1000000)
def rangeW (a b : W) : Option (List W) :=
  match a, b with
  | .int a, .int b => if okR a && okR b then some (rangeI a (b - a).toNat) else none
  | _, _ => none
/-- the items of a list (false) or a tuple (true) that stand still -/
def stillW : W → Option (Bool × List W)
  | .tup xs => some (true, xs)
  | .lst xs => some (false, xs)
  | .new xs => some (false, xs)
  | .scr xs => some (false, xs)
  | _ => none
def enumW (i : Nat) : List W → List W
  | [] => []
  | x :: xs => .tup [.int (i : Int), x] :: enumW (i + 1) xs
def zipW : List W → List W → List W
  | x :: xs, y :: ys => .tup [x, y] :: zipW xs ys
  | _, _ => []
def truth (cs : List Ob) : W → Option Bool
  | .bl b => some b
  | _ => none

/-- how defs answer: by their number, arguments, the cells; atoms and tuples that stand at the top; how long a while may run -/
structure Orc where
  call : Nat → List W → List Ob → R W
  glob : Str → Option W
  fuel : Nat

/-- the fields of an exception that leaves a pure def -/
def flatX (x : Xn) : Bool := x.fs.all fun p => flat deep p.2
def callP (O : Orc) (f : Nat) (ws : List W) (cs : List Ob) : R W :=
  match derefL (deref cs deep) ws with
  | some vs => (match O.call f vs [] with
    | .ok w c1 => (match handed c1 w with
      | some v => .ok v cs
      | none => .bad)
    | .exn x _ => if flatX x then .exn x cs else .bad
    | .bad => .bad)
  | none => .bad
def permute {α : Type} (ws : List α) (pm : List Nat) : List α := pm.filterMap fun i => ws[i]?

mutual
def ev (O : Orc) (ρ : Env) : Ex → List Ob → R W
  | .var i, cs => (match ρ[i]? with
    | some (some w) => .ok w cs
    | _ => .bad)
  | .non, cs => .ok .non cs
  | .bl b, cs => .ok (.bl b) cs
  | .int i, cs => .ok (.int i) cs
  | .str s, cs => .ok (.str s) cs
  | .glob x, cs => ofO (O.glob x) cs
  | .bin op a b, cs => (ev O ρ a cs).bind fun x cs => (ev O ρ b cs).bind fun y cs => bop op x y cs
  | .neg a, cs => (ev O ρ a cs).bind fun x cs => (match x with
    | .int i => .ok (.int (-i)) cs
    | _ => .bad)
  | .not a, cs => (ev O ρ a cs).bind fun x cs => (match truth cs x with
    | some b => .ok (.bl (!b)) cs
    | none => .bad)
  | .and a b, cs => (ev O ρ a cs).bind fun x cs => (match x with
    | .bl true => ev O ρ b cs
    | .bl false => .ok (.bl false) cs
    | _ => .bad)
  | .or a b, cs => (ev O ρ a cs).bind fun x cs => (match x with
    | .bl true => .ok (.bl true) cs
    | .bl false => ev O ρ b cs
    | _ => .bad)
  | .cmp op a b, cs => (ev O ρ a cs).bind fun x cs => (ev O ρ b cs).bind fun y cs => (match cop op x y cs with
    | some k => .ok (.bl k) cs
    | none => .bad)
  | .chain o1 o2 a b c, cs => (ev O ρ a cs).bind fun x cs => (ev O ρ b cs).bind fun y cs => (match cop o1 x y cs with
    | some true => (ev O ρ c cs).bind fun z cs => (match cop o2 y z cs with
      | some k => .ok (.bl k) cs
      | none => .bad)
    | some false => .ok (.bl false) cs
    | none => .bad)
  | .ifx c a b, cs => (ev O ρ c cs).bind fun x cs => (match truth cs x with
    | some true => ev O ρ a cs
    | some false => ev O ρ b cs
    | none => .bad)
  | .callP f es, cs => (evs O ρ es cs).bind fun ws cs => callP O f ws cs
  | .callPK f es pm, cs => (evs O ρ es cs).bind fun ws cs => callP O f (permute ws pm) cs
  | .callH f es, cs => (evs O ρ es cs).bind fun ws cs => O.call f ws cs
  | .callHK f es pm, cs => (evs O ρ es cs).bind fun ws cs => O.call f (permute ws pm) cs
  | .blt b es, cs => (evs O ρ es cs).bind fun ws cs => blt b ws cs
  | .listI a b, cs => (ev O ρ a cs).bind fun x cs => (ev O ρ b cs).bind fun y cs => (match rangeW x y with
    | some xs => .ok (.new xs) cs
    | none => .bad)
  | .listJ a, cs => (ev O ρ a cs).bind fun x cs => (match rangeW (.int 0) x with
    | some xs => .ok (.new xs) cs
    | none => .bad)
  | .listR a, cs => (ev O ρ a cs).bind fun x cs => (match itemsL cs x with
    | some xs => .ok (.new xs.reverse) cs
    | none => .bad)
  | .sortS a, cs => (ev O ρ a cs).bind fun x cs => (match (itemsL cs x).bind intsW with
    | some ns => if ns.length < 64 then .ok (.new ((sortI (onceI ns)).map .int)) cs else .bad
    | none => .bad)
  | .meth m o es, cs => (ev O ρ o cs).bind fun x cs => if isCell cs x then (evs O ρ es cs).bind fun ws cs => meth m x ws cs else .bad
  | .isi a t, cs => (ev O ρ a cs).bind fun x cs => (match isiW t x cs with
    | some k => .ok (.bl k) cs
    | none => .bad)
  | .sub a i, cs => (ev O ρ a cs).bind fun x cs => (ev O ρ i cs).bind fun y cs => ofO (subW x y cs) cs
  | .slice a lo hi, cs => (ev O ρ a cs).bind fun x cs => (evO O ρ lo cs).bind fun l cs => (evO O ρ hi cs).bind fun h cs => sliceW x l h cs
  | .list es, cs => (evs O ρ es cs).bind fun ws cs => mkNew ws cs
  | .tuple es, cs => (evs O ρ es cs).bind fun ws cs => mkTup ws cs
  | .comp elt t it c own, cs => (evI O ρ it cs).bind fun s cs =>
    (compS (fun x cs => (match put t (fz x) (wipe ρ own) with
      | some ρ' => ((evC O ρ' c cs).bind fun b cs => if b then (ev O ρ' elt cs).bind fun y cs => .ok (some (fz y)) cs else .ok none cs).noX
      | none => .bad)) s cs).bind fun ys cs => mkNew ys cs
  | .comp2 elt t it t1 e1 own own1, cs => (evI O ρ it cs).bind fun s cs => (match s with
    | .im xs => (cat2 (fun x cs => (match put t (fz x) (wipe ρ own) with
      | some ρ' => ((ev O ρ' e1 cs).bind fun y cs => (match y with
        | .tup ys => (compGo (fun y cs => (match put t1 (fz y) (wipe ρ' own1) with
          | some ρ2 => ((ev O ρ2 elt cs).bind fun z cs => .ok (some (fz z)) cs).noX
          | none => .bad)) ys cs)
        | _ => .bad)).noX
      | none => .bad)) xs cs).bind fun ys cs => mkNew ys cs
    | _ => .bad)
  | .cel e, cs => (ev O ρ e cs).bind fun x cs => (match x with
    | .new xs => .ok (.ref cs.length) (cs ++ [.lst xs])
    | x => .ok x cs)
def evs (O : Orc) (ρ : Env) : Exs → List Ob → R (List W)
  | .nil, cs => .ok [] cs
  | .cons e es, cs => (ev O ρ e cs).bind fun x cs => (evs O ρ es cs).bind fun xs cs => .ok (fz x :: xs) cs
def evO (O : Orc) (ρ : Env) : OEx → List Ob → R (Option Int)
  | .none, cs => .ok none cs
  | .some e, cs => (ev O ρ e cs).bind fun x cs => (match x with
    | .int i => .ok (some i) cs
    | _ => .bad)
/-- a comprehension's test -/
def evC (O : Orc) (ρ : Env) : OEx → List Ob → R Bool
  | .none, cs => .ok true cs
  | .some e, cs => (ev O ρ e cs).bind fun x cs => ofO (truth cs x) cs
def evI (O : Orc) (ρ : Env) : It → List Ob → R Src
  | .ex e, cs => (ev O ρ e cs).bind fun x cs => ofO (srcOf cs x) cs
  | .range a, cs => (ev O ρ a cs).bind fun x cs => (match rangeW (.int 0) x with
    | some xs => .ok (.im xs) cs
    | none => .bad)
  | .range2 a b, cs => (ev O ρ a cs).bind fun x cs => (ev O ρ b cs).bind fun y cs => (match rangeW x y with
    | some xs => .ok (.im xs) cs
    | none => .bad)
  | .enum e, cs => (ev O ρ e cs).bind fun x cs => (match stillW x with
    | some (_, xs) => .ok (.im (enumW 0 xs)) cs
    | none => .bad)
  | .zip a b, cs => (ev O ρ a cs).bind fun x cs => (ev O ρ b cs).bind fun y cs => (match stillW x, stillW y with
    | some (s, xs), some (t, ys) => if s = t then .ok (.im (zipW xs ys)) cs else .bad
    | _, _ => .bad)
  | .rev e, cs => (ev O ρ e cs).bind fun x cs => (match stillW x with
    | some (_, xs) => .ok (.im xs.reverse) cs
    | none => .bad)
end

mutual
/-- a value in an except suite -/
def hvE (x : Xn) (ρ : Env) : Hv → Option W
  | .non => some .non
  | .bl b => some (.bl b)
  | .int i => some (.int i)
  | .str s => some (.str s)
  | .var i => (match ρ[i]? with
    | some (some w) => some w
    | _ => none)
  | .fld f => x.fs.lookup f
  | .tup es => (match hvsE x ρ es with
    | some ws => if ws.length ≤ lim then some (.tup ws) else none
    | none => none)
def hvsE (x : Xn) (ρ : Env) : Hvs → Option (List W)
  | .nil => some []
  | .cons e es => (match hvE x ρ e, hvsE x ρ es with
    | some w, some ws => some (fz w :: ws)
    | _, _ => none)
end
def htE (x : Xn) : Ht → Bool
  | .isx ms => ms.contains x.cls
  | .isv => true
  | .not a => !htE x a
  | .and a b => htE x a && htE x b
  | .or a b => htE x a || htE x b
mutual
/-- some none: the suite runs through -/
def hsE (x : Xn) (ρ : Env) : Hst → Option (Option W)
  | .ret v => (hvE x ρ v).map some
  | .retb t => some (some (.bl (htE x t)))
  | .ife t a b => if htE x t then hssE x ρ a else hssE x ρ b
def hssE (x : Xn) (ρ : Env) : Hss → Option (Option W)
  | .nil => some none
  | .cons s ss => (match hsE x ρ s with
    | some none => hssE x ρ ss
    | r => r)
end

/-- a test -/
def test (O : Orc) (ρ : Env) (c : Ex) (cs : List Ob) : R Bool := (ev O ρ c cs).bind fun x cs => ofO (truth cs x) cs

mutual
def run (O : Orc) : S → Env → List Ob → R Fl
  | .set i e, ρ, cs => (ev O ρ e cs).bind fun x cs => .ok (.nx (ρ.set i (some (fz x)))) cs
  | .setC i e, ρ, cs => (ev O ρ e cs).bind fun x cs => (match x with
    | .new xs => .ok (.nx (ρ.set i (some (.ref cs.length)))) (cs ++ [.lst xs])
    | x => .ok (.nx (ρ.set i (some x))) cs)
  | .setT t e, ρ, cs => (ev O ρ e cs).bind fun x cs => (match put t (fz x) ρ with
    | some ρ' => .ok (.nx ρ') cs
    | none => .bad)
  | .par i j a b, ρ, cs => (ev O ρ a cs).bind fun x cs => (ev O ρ b cs).bind fun y cs => .ok (.nx ((ρ.set i (some (fz x))).set j (some (fz y)))) cs
  | .setI o i e, ρ, cs => (ev O ρ e cs).bind fun v cs => (ev O ρ o cs).bind fun x cs => (ev O ρ i cs).bind fun y cs => (match setIdx x y (fz v) cs with
    | some cs' => .ok (.nx ρ) cs'
    | none => .bad)
  | .ex e, ρ, cs => (ev O ρ e cs).bind fun _ cs => .ok (.nx ρ) cs
  | .ret e, ρ, cs => (ev O ρ e cs).bind fun x cs => .ok (.ret x) cs
  | .retN, _, cs => .ok (.ret .non) cs
  | .ife c t e, ρ, cs => (test O ρ c cs).bind fun b cs => if b then runs O t ρ cs else runs O e ρ cs
  | .for t it b, ρ, cs => (evI O ρ it cs).bind fun s cs => forS (fun x ρ cs => (match put t (fz x) ρ with
    | some ρ' => runs O b ρ' cs
    | none => .bad)) s ρ cs
  | .while c b, ρ, cs => whGo (fun ρ cs => test O ρ c cs) (fun ρ cs => runs O b ρ cs) O.fuel ρ cs
  | .brk, ρ, cs => .ok (.bk ρ) cs
  | .cnt, ρ, cs => .ok (.ct ρ) cs
  | .pass, ρ, cs => .ok (.nx ρ) cs
  | .fail, _, _ => .bad
  | .raise c f e, ρ, cs => (ev O ρ e cs).bind fun x cs => .exn ⟨c, [(f, fz x)]⟩ cs
  | .tryA wr b al ms i h, ρ, cs => (match runs O b ρ cs with
    | .ok fl cs1 => .ok fl cs1
    | .exn x cs1 => if al.contains x.cls && decide (i < ρ.length) then (if ms.contains x.cls then (match hssE x ((wipe ρ wr).set i none) h with
      | some none => .ok (.nx ((wipe ρ wr).set i none)) cs1
      | some (some w) => .ok (.ret w) cs1
      | none => .bad) else .exn x cs1) else .bad
    | .bad => .bad)
def runs (O : Orc) : Ss → Env → List Ob → R Fl
  | .nil, ρ, cs => .ok (.nx ρ) cs
  | .cons s ss, ρ, cs => (run O s ρ cs).bind fun fl cs => (match fl with
    | .nx ρ' => runs O ss ρ' cs
    | fl => .ok fl cs)
end

/-- a def: how many slots, its parameters first; its body -/
structure Def where
  slots : Nat
  pars : Nat
  body : Ss
def entry (d : Def) (ws : List W) : Env := ws.map some ++ List.replicate (d.slots - ws.length) none
def Def.run (d : Def) (O : Orc) (ws : List W) (cs : List Ob) : R W :=
  if ws.length = d.pars then (runs O d.body (entry d ws) cs).bind fun fl cs => (match fl with
    | .nx _ => .ok .non cs
    | .ret w => .ok w cs
    | _ => .bad) else .bad
/-- the defs, by their numbers; k: how deep calls may lie in one another -/
def calls (ds : List Def) (g : Str → Option W) (fuel : Nat) : Nat → Nat → List W → List Ob → R W
  | 0, _, _, _ => .bad
  | k + 1, f, ws, cs => (match ds[f]? with
    | some d => d.run ⟨calls ds g fuel k, g, fuel⟩ ws cs
    | none => .bad)
end Mi
end S_Mini

section S_Rel
set_option Elab.async false
set_option linter.all false
set_option maxRecDepth 100000
set_option maxHeartbeats 4000000
/-! Rel: how the evaluator's data lie in the abstract heap. -/
namespace So
open PySem PySem.Spec PyProof.Rows L2
open Mi (W Ob Xn R Orc)
abbrev ME := Mi.Env
abbrev LS := L2.St

/-- a tuple of the written part -/
def KT (K : PySem.W.Frag) (a : Addr) (vs : List V) : Prop :=
  ∃ (o : Obj) (its : Array Value) (n : Nat), K.lookup a = some o ∧ o.cls = .type "tuple" ∧ o.data = .seq its n ∧ its.size ≤ sizeLine ∧ Vals vs its.toList

/-- a list of the written part -/
def KL (K : PySem.W.Frag) (a : Addr) (vs : List V) : Prop :=
  ∃ (o : Obj) (its : Array Value) (n : Nat), K.lookup a = some o ∧ o.cls = .type "list" ∧ o.dict = none ∧ o.data = .seq its n ∧ its.size ≤ sizeLine ∧ Vals vs its.toList

mutual
/-- a value lies in the heap as the data say; m: where the cells lie; f: what is not spoken of -/
inductive Rep (K : PySem.W.Frag) (H : Hp) (m f : List Addr) : W → V → Prop
  | non : Rep K H m f .non .non
  | bl (b : Bool) : Rep K H m f (.bl b) (.bl b)
  | int (i : Int) : Rep K H m f (.int i) (.int i)
  | str (s : Str) : Rep K H m f (.str s) (.str s)
  | tup {ws : List W} {vs : List V} {a : Addr} : Rd H a (.tup vs) → a ∉ m → a ∉ f → Reps K H m f ws vs → Rep K H m f (.tup ws) (.ref a)
  | ktup {ws : List W} {vs : List V} {a : Addr} : KT K a vs → Reps K H m f ws vs → Rep K H m f (.tup ws) (.ref a)
  | lst {ws : List W} {vs : List V} {a : Addr} : H a = some (.lst vs) → a ∉ m → a ∉ f → Reps K H m f ws vs → Rep K H m f (.lst ws) (.ref a)
  | scr {ws : List W} {vs : List V} {a : Addr} : Rd H a (.lst vs) → a ∉ m → a ∉ f → Reps K H m f ws vs → Rep K H m f (.scr ws) (.ref a)
  | kscr {ws : List W} {vs : List V} {a : Addr} : KL K a vs → Reps K H m f ws vs → Rep K H m f (.scr ws) (.ref a)
  | ref {n : Nat} {a : Addr} : m[n]? = some a → Rep K H m f (.ref n) (.ref a)
inductive Reps (K : PySem.W.Frag) (H : Hp) (m f : List Addr) : List W → List V → Prop
  | nil : Reps K H m f [] []
  | cons {w : W} {ws : List W} {v : V} {vs : List V} : Rep K H m f w v → Reps K H m f ws vs → Reps K H m f (w :: ws) (v :: vs)
end

/-- what an evaluation keeps: new cells are new objects, and all but the cells stands -/
structure Keep (H H' : Hp) (m m' : List Addr) : Prop where
  ext : ∃ n, m' = m ++ n ∧ ∀ a ∈ n, H a = none
  same : ∀ a o, H a = some o → a ∉ m → H' a = some o
  dom : ∀ a, H' a = none → H a = none

theorem Keep.refl {H : Hp} {m : List Addr} : Keep H H m m := ⟨⟨[], by simp, fun _ h => nomatch h⟩, fun _ _ h _ => h, fun _ h => h⟩
theorem Keep.out {H H' : Hp} {m m' : List Addr} (k : Keep H H' m m') {a : Addr} {o : HO} (h : H a = some o) (ha : a ∉ m) : a ∉ m' := by
  obtain ⟨n, e, hn⟩ := k.ext
  rw [e]
  intro hm
  rcases List.mem_append.mp hm with h1 | h1
  · exact ha h1
  · rw [hn a h1] at h
    cases h
theorem Keep.trans {H H1 H2 : Hp} {m m1 m2 : List Addr} (k : Keep H H1 m m1) (l : Keep H1 H2 m1 m2) : Keep H H2 m m2 := by
  refine ⟨?_, fun a o h ha => l.same a o (k.same a o h ha) (k.out h ha), fun a h => k.dom a (l.dom a h)⟩
  obtain ⟨n1, e1, h1⟩ := k.ext
  obtain ⟨n2, e2, h2⟩ := l.ext
  refine ⟨n1 ++ n2, by rw [e2, e1, List.append_assoc], fun a ha => ?_⟩
  rcases List.mem_append.mp ha with z | z
  · exact h1 a z
  · exact k.dom a (h2 a z)
theorem Keep.get {H H' : Hp} {m m' : List Addr} (k : Keep H H' m m') {n : Nat} {a : Addr} (h : m[n]? = some a) : m'[n]? = some a := by
  obtain ⟨n1, e1, _⟩ := k.ext
  rw [e1, List.getElem?_append_left]
  · exact h
  · exact (List.getElem?_eq_some_iff.mp h).1
theorem Keep.rd {H H' : Hp} {m m' : List Addr} (k : Keep H H' m m') {a : Addr} {o : HO} (h : Rd H a o) (ha : a ∉ m) : Rd H' a o ∧ a ∉ m' := by
  rcases h with h | ⟨f, h⟩
  · exact ⟨Or.inl (k.same a _ h ha), k.out h ha⟩
  · exact ⟨Or.inr ⟨f, k.same a _ h ha⟩, k.out h ha⟩
/-- a new object that is no cell -/
theorem Keep.new {H : Hp} {m : List Addr} {p : Addr} {o : HO} (h : H p = none) : Keep H (upd H p o) m m := by
  refine ⟨⟨[], by simp, fun _ h => nomatch h⟩, fun a u e _ => ?_, fun a e => ?_⟩
  · rw [upd_ne (ne_of_none e h)]
    exact e
  · by_cases z : a = p
    · rw [z]
      exact h
    · rw [upd_ne z] at e
      exact e
/-- a cell is changed -/
theorem Keep.cell {H : Hp} {m : List Addr} {p : Addr} {o : HO} (h : p ∈ m) : Keep H (upd H p o) m m := by
  refine ⟨⟨[], by simp, fun _ h => nomatch h⟩, fun a u e ha => ?_, fun a e => ?_⟩
  · rw [upd_ne (fun z => ha (by rw [z]; exact h))]
    exact e
  · by_cases z : a = p
    · rw [z, upd_same] at e
      cases e
    · rw [upd_ne z] at e
      exact e

mutual
theorem Rep.mono {K : PySem.W.Frag} {H H' : Hp} {m m' f : List Addr} (k : Keep H H' m m') : ∀ {w : W} {v : V}, Rep K H m f w v → Rep K H' m' f w v
  | _, _, .non => .non
  | _, _, .bl b => .bl b
  | _, _, .int i => .int i
  | _, _, .str s => .str s
  | _, _, .tup h ha hf hs => .tup (k.rd h ha).1 (k.rd h ha).2 hf (Reps.mono k hs)
  | _, _, .ktup h hs => .ktup h (Reps.mono k hs)
  | _, _, .kscr h hs => .kscr h (Reps.mono k hs)
  | _, _, .lst h ha hf hs => .lst (k.same _ _ h ha) (k.out h ha) hf (Reps.mono k hs)
  | _, _, .scr h ha hf hs => .scr (k.rd h ha).1 (k.rd h ha).2 hf (Reps.mono k hs)
  | _, _, .ref h => .ref (k.get h)
theorem Reps.mono {K : PySem.W.Frag} {H H' : Hp} {m m' f : List Addr} (k : Keep H H' m m') : ∀ {ws : List W} {vs : List V}, Reps K H m f ws vs → Reps K H' m' f ws vs
  | _, _, .nil => .nil
  | _, _, .cons h hs => .cons (Rep.mono k h) (Reps.mono k hs)
end

theorem rd_ne {H : Hp} {a p : Addr} {o : HO} (h : Rd H a o) (hp : H p = none) : a ≠ p := by
  rcases h with h | ⟨x, h⟩
  · exact ne_of_none h hp
  · exact ne_of_none h hp
theorem rd_laid {H : Hp} {a p : Addr} {o u : HO} (h : Rd H a o) (hp : H p = none) : Rd (upd H p u) a o := by
  rcases h with h | ⟨x, h⟩
  · exact Or.inl (by rw [upd_ne (ne_of_none h hp)]; exact h)
  · exact Or.inr ⟨x, by rw [upd_ne (ne_of_none h hp)]; exact h⟩
mutual
/-- what does not speak of a, nor of f -/
theorem Rep.weaken {K : PySem.W.Frag} {H : Hp} {m f : List Addr} {a : Addr} : ∀ {w : W} {v : V}, Rep K H m (a :: f) w v → Rep K H m f w v
  | _, _, .non => .non
  | _, _, .bl b => .bl b
  | _, _, .int i => .int i
  | _, _, .str s => .str s
  | _, _, .tup h ha hf hs => .tup h ha (fun z => hf (List.mem_cons_of_mem _ z)) (Reps.weaken hs)
  | _, _, .ktup h hs => .ktup h (Reps.weaken hs)
  | _, _, .kscr h hs => .kscr h (Reps.weaken hs)
  | _, _, .lst h ha hf hs => .lst h ha (fun z => hf (List.mem_cons_of_mem _ z)) (Reps.weaken hs)
  | _, _, .scr h ha hf hs => .scr h ha (fun z => hf (List.mem_cons_of_mem _ z)) (Reps.weaken hs)
  | _, _, .ref h => .ref h
theorem Reps.weaken {K : PySem.W.Frag} {H : Hp} {m f : List Addr} {a : Addr} : ∀ {ws : List W} {vs : List V}, Reps K H m (a :: f) ws vs → Reps K H m f ws vs
  | _, _, .nil => .nil
  | _, _, .cons h hs => .cons (Rep.weaken h) (Reps.weaken hs)
end
theorem notin_grow {m f : List Addr} {a b : Addr} (h1 : b ∉ m) (h2 : b ∉ a :: f) : b ∉ m ++ [a] := fun z =>
  (List.mem_append.mp z).elim h1 fun z => h2 (by rw [List.mem_singleton.mp z]; exact List.mem_cons_self)
mutual
/-- a becomes a cell -/
theorem Rep.grow {K : PySem.W.Frag} {H : Hp} {m f : List Addr} {a : Addr} : ∀ {w : W} {v : V}, Rep K H m (a :: f) w v → Rep K H (m ++ [a]) f w v
  | _, _, .non => .non
  | _, _, .bl b => .bl b
  | _, _, .int i => .int i
  | _, _, .str s => .str s
  | _, _, .tup h ha hf hs => .tup h (notin_grow ha hf) (fun z => hf (List.mem_cons_of_mem _ z)) (Reps.grow hs)
  | _, _, .ktup h hs => .ktup h (Reps.grow hs)
  | _, _, .kscr h hs => .kscr h (Reps.grow hs)
  | _, _, .lst h ha hf hs => .lst h (notin_grow ha hf) (fun z => hf (List.mem_cons_of_mem _ z)) (Reps.grow hs)
  | _, _, .scr h ha hf hs => .scr h (notin_grow ha hf) (fun z => hf (List.mem_cons_of_mem _ z)) (Reps.grow hs)
  | _, _, .ref h => .ref (by rw [List.getElem?_append_left (List.getElem?_eq_some_iff.mp h).1]; exact h)
theorem Reps.grow {K : PySem.W.Frag} {H : Hp} {m f : List Addr} {a : Addr} : ∀ {ws : List W} {vs : List V}, Reps K H m (a :: f) ws vs → Reps K H (m ++ [a]) f ws vs
  | _, _, .nil => .nil
  | _, _, .cons h hs => .cons (Rep.grow h) (Reps.grow hs)
end
theorem notin_new {f : List Addr} {a p : Addr} (h1 : a ≠ p) (h2 : a ∉ f) : a ∉ p :: f := fun z => (List.mem_cons.mp z).elim h1 h2
mutual
/-- a new object is laid that nothing speaks of -/
theorem Rep.aside {K : PySem.W.Frag} {H : Hp} {m f : List Addr} {p : Addr} {o : HO} (hp : H p = none) : ∀ {w : W} {v : V}, Rep K H m f w v → Rep K (upd H p o) m (p :: f) w v
  | _, _, .non => .non
  | _, _, .bl b => .bl b
  | _, _, .int i => .int i
  | _, _, .str s => .str s
  | _, _, .tup h ha hf hs => .tup (rd_laid h hp) ha (notin_new (rd_ne h hp) hf) (Reps.aside hp hs)
  | _, _, .ktup h hs => .ktup h (Reps.aside hp hs)
  | _, _, .kscr h hs => .kscr h (Reps.aside hp hs)
  | _, _, .lst h ha hf hs => .lst (by rw [upd_ne (ne_of_none h hp)]; exact h) ha (notin_new (ne_of_none h hp) hf) (Reps.aside hp hs)
  | _, _, .scr h ha hf hs => .scr (rd_laid h hp) ha (notin_new (rd_ne h hp) hf) (Reps.aside hp hs)
  | _, _, .ref h => .ref h
theorem Reps.aside {K : PySem.W.Frag} {H : Hp} {m f : List Addr} {p : Addr} {o : HO} (hp : H p = none) : ∀ {ws : List W} {vs : List V}, Reps K H m f ws vs → Reps K (upd H p o) m (p :: f) ws vs
  | _, _, .nil => .nil
  | _, _, .cons h hs => .cons (Rep.aside hp h) (Reps.aside hp hs)
end

/-- what a cell holds lies at a -/
def RepO (K : PySem.W.Frag) (H : Hp) (m f : List Addr) (a : Addr) : Ob → Prop
  | .lst xs => ∃ vs, H a = some (.lst vs) ∧ Reps K H m f xs vs
  | .ins _ _ => False
/-- the cells lie as they are -/
structure Cells (K : PySem.W.Frag) (H : Hp) (m f : List Addr) (cs : List Ob) : Prop where
  len : cs.length = m.length
  nd : m.Nodup
  fd : ∀ a ∈ f, H a ≠ none
  fm : ∀ a ∈ f, a ∉ m
  at_ : ∀ (n : Nat) (a : Addr) (o : Ob), m[n]? = some a → cs[n]? = some o → RepO K H m f a o
/-- the slots -/
def EnvR (K : PySem.W.Frag) (H : Hp) (m f : List Addr) (ρ : ME) (σ : LS) : Prop :=
  ρ.length = σ.length ∧ ∀ (i : Nat) (w : W), ρ[i]? = some (some w) → ∃ v, σ[i]? = some (some v) ∧ Rep K H m f w v
theorem EnvR.mono {K : PySem.W.Frag} {H H' : Hp} {m m' f : List Addr} {ρ : ME} {σ : LS} (k : Keep H H' m m') (e : EnvR K H m f ρ σ) : EnvR K H' m' f ρ σ :=
  ⟨e.1, fun i w h => let ⟨v, h1, h2⟩ := e.2 i w h; ⟨v, h1, h2.mono k⟩⟩
theorem Cells.weaken {K : PySem.W.Frag} {H : Hp} {m f : List Addr} {a : Addr} {cs : List Ob} (c : Cells K H m (a :: f) cs) : Cells K H m f cs := by
  refine ⟨c.len, c.nd, fun b hb => c.fd b (List.mem_cons_of_mem _ hb), fun b hb => c.fm b (List.mem_cons_of_mem _ hb), fun n b o h1 h2 => ?_⟩
  have h := c.at_ n b o h1 h2
  cases o with
  | lst xs =>
    obtain ⟨vs, h3, h4⟩ := h
    exact ⟨vs, h3, h4.weaken⟩
  | ins c fs => exact h
theorem Cells.grow {K : PySem.W.Frag} {H : Hp} {m f : List Addr} {a : Addr} {cs : List Ob} {xs : List W} {vs : List V} (c : Cells K H m (a :: f) cs) (hf : a ∉ f) (hl : H a = some (.lst vs)) (hx : Reps K H m (a :: f) xs vs) :
    Cells K H (m ++ [a]) f (cs ++ [.lst xs]) := by
  have ha : a ∉ m := c.fm a List.mem_cons_self
  refine ⟨by rw [List.length_append, List.length_append, c.len] <;> rfl, ?_, fun b hb => c.fd b (List.mem_cons_of_mem _ hb), fun b hb => ?_, fun n b o h1 h2 => ?_⟩
  · refine List.nodup_append.mpr ⟨c.nd, by simp, fun x hx y hy e => ?_⟩
    rw [List.mem_singleton.mp hy] at e
    exact ha (e ▸ hx)
  · intro z
    rcases List.mem_append.mp z with z | z
    · exact c.fm b (List.mem_cons_of_mem _ hb) z
    · rw [List.mem_singleton.mp z] at hb
      exact hf hb
  · by_cases hn : n < m.length
    · rw [List.getElem?_append_left hn] at h1
      rw [List.getElem?_append_left (by rw [c.len]; exact hn)] at h2
      have h := c.at_ n b o h1 h2
      cases o with
      | lst xs =>
        obtain ⟨vs, h3, h4⟩ := h
        exact ⟨vs, h3, h4.grow⟩
      | ins c fs => exact h.elim
    · have h0 : n = m.length := by
        have := (List.getElem?_eq_some_iff.mp h1).1
        rw [List.length_append] at this
        simp at this
        omega
      subst h0
      rw [List.getElem?_append_right (Nat.le_refl _), Nat.sub_self] at h1
      rw [List.getElem?_append_right (by rw [c.len] <;> exact Nat.le_refl _), c.len, Nat.sub_self] at h2
      simp at h1 h2
      subst h1
      subst h2
      exact ⟨vs, hl, hx.grow⟩
theorem Reps.length {K : PySem.W.Frag} {H : Hp} {m f : List Addr} : ∀ {ws : List W} {vs : List V}, Reps K H m f ws vs → ws.length = vs.length
  | _, _, .nil => rfl
  | _, _, .cons _ hs => congrArg (· + 1) (Reps.length hs)
theorem Reps.get {K : PySem.W.Frag} {H : Hp} {m f : List Addr} : ∀ {ws : List W} {vs : List V} {i : Nat} {w : W}, Reps K H m f ws vs → ws[i]? = some w → ∃ v, vs[i]? = some v ∧ Rep K H m f w v
  | _, _, _, _, .nil, e => by simp at e
  | _, _, 0, _, .cons r _, e => by
    simp at e
    subst e
    exact ⟨_, rfl, r⟩
  | _, _, i + 1, _, .cons _ t, e => by
    obtain ⟨v, h1, h2⟩ := Reps.get (i := i) t (by simpa using e)
    exact ⟨v, by simpa using h1, h2⟩
theorem Reps.getV {K : PySem.W.Frag} {H : Hp} {m f : List Addr} : ∀ {ws : List W} {vs : List V} {i : Nat} {v : V}, Reps K H m f ws vs → vs[i]? = some v → ∃ w, ws[i]? = some w ∧ Rep K H m f w v
  | _, _, _, _, .nil, e => by simp at e
  | _, _, 0, _, .cons r _, e => by
    simp at e
    subst e
    exact ⟨_, rfl, r⟩
  | _, _, i + 1, _, .cons _ t, e => by
    obtain ⟨v, h1, h2⟩ := Reps.getV (i := i) t (by simpa using e)
    exact ⟨v, by simpa using h1, h2⟩
theorem Reps.append {K : PySem.W.Frag} {H : Hp} {m f : List Addr} : ∀ {ws us : List W} {vs zs : List V}, Reps K H m f ws vs → Reps K H m f us zs → Reps K H m f (ws ++ us) (vs ++ zs)
  | _, _, _, _, .nil, s => s
  | _, _, _, _, .cons r t, s => .cons r (Reps.append t s)
theorem Reps.take {K : PySem.W.Frag} {H : Hp} {m f : List Addr} : ∀ {ws : List W} {vs : List V} (n : Nat), Reps K H m f ws vs → Reps K H m f (ws.take n) (vs.take n)
  | _, _, 0, _ => .nil
  | _, _, _ + 1, .nil => .nil
  | _, _, n + 1, .cons r t => .cons r (Reps.take n t)
theorem Reps.drop {K : PySem.W.Frag} {H : Hp} {m f : List Addr} : ∀ {ws : List W} {vs : List V} (n : Nat), Reps K H m f ws vs → Reps K H m f (ws.drop n) (vs.drop n)
  | _, _, 0, r => r
  | _, _, _ + 1, .nil => .nil
  | _, _, n + 1, .cons _ t => Reps.drop n t
theorem Reps.set {K : PySem.W.Frag} {H : Hp} {m f : List Addr} {w : W} {v : V} (r : Rep K H m f w v) : ∀ {ws : List W} {vs : List V} (i : Nat), Reps K H m f ws vs → Reps K H m f (ws.set i w) (vs.set i v)
  | _, _, _, .nil => .nil
  | _, _, 0, .cons _ t => .cons r t
  | _, _, i + 1, .cons q t => .cons q (Reps.set r i t)
theorem Reps.eraseIdx {K : PySem.W.Frag} {H : Hp} {m f : List Addr} : ∀ {ws : List W} {vs : List V} (i : Nat), Reps K H m f ws vs → Reps K H m f (ws.eraseIdx i) (vs.eraseIdx i)
  | _, _, _, .nil => .nil
  | _, _, 0, .cons _ t => t
  | _, _, i + 1, .cons q t => .cons q (Reps.eraseIdx i t)
theorem Reps.dropLast {K : PySem.W.Frag} {H : Hp} {m f : List Addr} : ∀ {ws : List W} {vs : List V}, Reps K H m f ws vs → Reps K H m f ws.dropLast vs.dropLast
  | _, _, .nil => .nil
  | _, _, .cons _ .nil => .nil
  | _, _, .cons q (.cons r t) => .cons q (Reps.dropLast (.cons r t))
theorem Reps.reverse {K : PySem.W.Frag} {H : Hp} {m f : List Addr} : ∀ {ws : List W} {vs : List V}, Reps K H m f ws vs → Reps K H m f ws.reverse vs.reverse
  | _, _, .nil => .nil
  | _, _, .cons q t => by
    rw [List.reverse_cons, List.reverse_cons]
    exact (Reps.reverse t).append (.cons q .nil)
theorem Reps.rep {K : PySem.W.Frag} {H : Hp} {m f : List Addr} {ws : List W} {vs : List V} (h : Reps K H m f ws vs) : ∀ n : Nat, Reps K H m f (List.replicate n ws).flatten (List.replicate n vs).flatten
  | 0 => .nil
  | n + 1 => by
    rw [List.replicate_succ, List.replicate_succ, List.flatten_cons, List.flatten_cons]
    exact h.append (Reps.rep h n)
theorem EnvR.set {K : PySem.W.Frag} {H : Hp} {m f : List Addr} {ρ : ME} {σ : LS} (e : EnvR K H m f ρ σ) {i : Nat} {w : W} {v : V} (r : Rep K H m f w v) : EnvR K H m f (ρ.set i (some w)) (σ.set i (some v)) := by
  refine ⟨by rw [List.length_set, List.length_set]; exact e.1, fun j u h => ?_⟩
  by_cases z : j = i
  · subst z
    have hl : j < ρ.length := by
      have := (List.getElem?_eq_some_iff.mp h).1
      rwa [List.length_set] at this
    rw [List.getElem?_set_self hl] at h
    cases h
    exact ⟨v, List.getElem?_set_self (by rw [← e.1]; exact hl), r⟩
  · rw [List.getElem?_set_ne (Ne.symm z)] at h
    obtain ⟨x, h1, h2⟩ := e.2 j u h
    exact ⟨x, by rw [List.getElem?_set_ne (Ne.symm z)]; exact h1, h2⟩
theorem EnvR.wipe {K : PySem.W.Frag} {H : Hp} {m f : List Addr} {ρ : ME} {σ : LS} (e : EnvR K H m f ρ σ) : ∀ is : List Nat, EnvR K H m f (Mi.wipe ρ is) (L2.wipe σ is)
  | [] => e
  | i :: is => by
    have q := EnvR.wipe e is
    refine ⟨?_, fun j u h => ?_⟩
    · show ((Mi.wipe ρ is).set i none).length = ((L2.wipe σ is).set i none).length
      rw [List.length_set, List.length_set]
      exact q.1
    · have h' : ((Mi.wipe ρ is).set i none)[j]? = some (some u) := h
      show ∃ v, ((L2.wipe σ is).set i none)[j]? = some (some v) ∧ Rep K H m f u v
      by_cases z : j = i
      · subst z
        have hl : j < (Mi.wipe ρ is).length := by
          have := (List.getElem?_eq_some_iff.mp h').1
          rwa [List.length_set] at this
        rw [List.getElem?_set_self hl] at h'
        cases h'
      · rw [List.getElem?_set_ne (Ne.symm z)] at h'
        obtain ⟨x, h1, h2⟩ := q.2 j u h'
        exact ⟨x, by rw [List.getElem?_set_ne (Ne.symm z)]; exact h1, h2⟩

/-- the value of an evaluation: data that stand, or a list just made that nothing else speaks of -/
inductive Out (K : PySem.W.Frag) (H : Hp) (m f : List Addr) (H' : Hp) (m' : List Addr) : W → List Ob → V → Prop
  | old {w : W} {cs : List Ob} {v : V} : Rep K H' m' f w v → Cells K H' m' f cs → Out K H m f H' m' w cs v
  | new {xs : List W} {vs : List V} {a : Addr} {cs : List Ob} : H a = none → a ∉ f → H' a = some (.lst vs) → Reps K H' m' (a :: f) xs vs → Cells K H' m' (a :: f) cs → Out K H m f H' m' (.new xs) cs (.ref a)
section
variable {K : PySem.W.Frag} {H H' H0 : Hp} {m m' m0 f : List Addr} {w : W} {v : V} {cs : List Ob}
theorem Rep.fz (r : Rep K H m f w v) : Rep K H m f (Mi.fz w) v := by
  cases r with
  | non => exact .non
  | bl b => exact .bl b
  | int i => exact .int i
  | str s => exact .str s
  | tup h1 h2 h3 h4 => exact .tup h1 h2 h3 h4
  | ktup h1 h2 => exact .ktup h1 h2
  | lst h1 h2 h3 h4 => exact .lst h1 h2 h3 h4
  | scr h1 h2 h3 h4 => exact .scr h1 h2 h3 h4
  | kscr h1 h2 => exact .kscr h1 h2
  | ref h => exact .ref h
theorem Out.rep (o : Out K H m f H' m' w cs v) : Rep K H' m' f (Mi.fz w) v := by
  cases o with
  | old r _ => exact r.fz
  | new _ h2 h3 h4 h5 => exact .lst h3 (h5.fm _ List.mem_cons_self) h2 h4.weaken
theorem Out.cells (o : Out K H m f H' m' w cs v) : Cells K H' m' f cs := by
  cases o with
  | old _ c => exact c
  | new _ _ _ _ c => exact c.weaken
/-- seen from an earlier heap -/
theorem Out.back (k : Keep H0 H m0 m) (o : Out K H m f H' m' w cs v) : Out K H0 m0 f H' m' w cs v := by
  cases o with
  | old r c => exact .old r c
  | new h1 h2 h3 h4 h5 => exact .new (k.dom _ h1) h2 h3 h4 h5
end
end So
end S_Rel

section S_Vals
set_option Elab.async false
set_option linter.all false
set_option maxRecDepth 100000
set_option maxHeartbeats 4000000
/-! Vals: the operators on values, as the evaluator has them. -/
namespace So
open PySem PySem.Spec PyProof.Rows L2
open Mi (W Ob Xn R Orc)

/-- an answer that is none of an exception, and what is wanted of it -/
def Rq {α : Type} (r : R α) (q : α → List Ob → Prop) : Prop :=
  match r with
  | .ok a cs => q a cs
  | .exn _ _ => True
  | .bad => False
theorem Rq.ofO {α : Type} {o : Option α} {cs : List Ob} {q : α → List Ob → Prop} (h : Rq (Mi.ofO o cs) q) : ∃ a, o = some a ∧ q a cs := by
  cases o with
  | none => exact h.elim
  | some a => exact ⟨a, rfl, h⟩

section
variable {K : PySem.W.Frag} {H : Hp} {m f : List Addr} {cs : List Ob}
theorem sl_le {n : Nat} (h : n ≤ Mi.lim) : n ≤ sizeLine := Nat.le_trans h (by rw [sizeLine_eq]; decide)
theorem Rep.noNew {w : W} {v : V} (h : Rep K H m f w v) : Mi.fz w = w := by
  cases h <;> rfl
theorem Cells.notin {a : Addr} (c : Cells K H m f cs) (h : H a = none) : a ∉ m := fun z => by
  obtain ⟨n, hn⟩ := List.getElem?_of_mem z
  have hl : n < cs.length := by
    rw [c.len]
    exact (List.getElem?_eq_some_iff.mp hn).1
  have q := c.at_ n a cs[n] hn (List.getElem?_eq_getElem hl)
  cases e : cs[n] with
  | lst xs =>
    rw [e] at q
    obtain ⟨vs, h1, _⟩ := q
    rw [h] at h1
    cases h1
  | ins x fs =>
    rw [e] at q
    exact q
theorem Cells.notf {a : Addr} (c : Cells K H m f cs) (h : H a = none) : a ∉ f := fun z => c.fd a z h
theorem Cells.mono {H' : Hp} (k : Keep H H' m m) (c : Cells K H m f cs) (hs : ∀ a ∈ m, H' a = H a) : Cells K H' m f cs := by
  refine ⟨c.len, c.nd, fun a ha e => c.fd a ha (k.dom a e), c.fm, fun n a o h1 h2 => ?_⟩
  have q := c.at_ n a o h1 h2
  cases o with
  | lst xs =>
    obtain ⟨vs, h3, h4⟩ := q
    exact ⟨vs, by rw [hs a (List.mem_of_getElem? h1)]; exact h3, h4.mono k⟩
  | ins x fs => exact q
theorem Cells.laid {p : Addr} {o : HO} (c : Cells K H m f cs) (h : H p = none) : Cells K (upd H p o) m f cs :=
  c.mono (Keep.new h) fun a ha => upd_ne fun z => c.notin h (z ▸ ha)
/-- a new object aside -/
theorem Cells.aside {p : Addr} {o : HO} (c : Cells K H m f cs) (h : H p = none) : Cells K (upd H p o) m (p :: f) cs := by
  have c' := c.laid (o := o) h
  refine ⟨c.len, c.nd, fun a ha => ?_, fun a ha => ?_, fun n a ob h1 h2 => ?_⟩
  · rcases List.mem_cons.mp ha with e | ha
    · rw [e, upd_same]
      exact fun z => nomatch z
    · exact c'.fd a ha
  · rcases List.mem_cons.mp ha with e | ha
    · rw [e]
      exact c.notin h
    · exact c.fm a ha
  · have q := c.at_ n a ob h1 h2
    cases ob with
    | lst xs =>
      obtain ⟨vs, h3, h4⟩ := q
      exact ⟨vs, by rw [upd_ne (ne_of_none h3 h)]; exact h3, h4.aside h⟩
    | ins x fs => exact q
theorem out_new {p : Addr} {xs : List W} {vs : List V} (c : Cells K H m f cs) (h : H p = none) (r : Reps K H m f xs vs) : Out K H m f (upd H p (.lst vs)) m (.new xs) cs (.ref p) :=
  .new h (c.notf h) upd_same (r.aside h) (c.aside h)
theorem rep_tup {p : Addr} {xs : List W} {vs : List V} (c : Cells K H m f cs) (h : H p = none) (r : Reps K H m f xs vs) : Rep K (upd H p (.tup vs)) m f (.tup xs) (.ref p) :=
  .tup (Rd.of upd_same) (c.notin h) (c.notf h) (r.mono (Keep.new h))
theorem out_tup {p : Addr} {xs : List W} {vs : List V} (c : Cells K H m f cs) (h : H p = none) (r : Reps K H m f xs vs) : Out K H m f (upd H p (.tup vs)) m (.tup xs) cs (.ref p) :=
  .old (rep_tup c h r) (c.laid h)

theorem Cells.lst (c : Cells K H m f cs) {n : Nat} {a : Addr} {xs : List W} (h : m[n]? = some a) (e : Mi.cellL cs n = some xs) : ∃ vs, H a = some (.lst vs) ∧ Reps K H m f xs vs := by
  unfold Mi.cellL at e
  split at e
  · rename_i ys he
    cases e
    exact c.at_ n a _ h he
  · cases e
theorem SqT.ofRep {ws : List W} {v : V} (h : Rep K H m f (.tup ws) v) : ∃ a vs, v = .ref a ∧ SqT K H a vs ∧ Reps K H m f ws vs := by
  cases h with
  | tup h1 _ _ h3 => exact ⟨_, _, rfl, .inl h1, h3⟩
  | ktup h1 h2 => exact ⟨_, _, rfl, .inr h1, h2⟩
/-- a list by its items -/
theorem rep_itemsL {w : W} {v : V} {xs : List W} (c : Cells K H m f cs) (r : Rep K H m f (Mi.fz w) v) (e : Mi.itemsL cs w = some xs) : ∃ a vs, v = .ref a ∧ H a = some (.lst vs) ∧ Reps K H m f xs vs := by
  cases w with
  | lst ys =>
    cases e
    cases r with
    | lst h1 _ _ h3 => exact ⟨_, _, rfl, h1, h3⟩
  | new ys =>
    cases e
    cases r with
    | lst h1 _ _ h3 => exact ⟨_, _, rfl, h1, h3⟩
  | ref n =>
    cases r with
    | ref h =>
      obtain ⟨vs, h1, h2⟩ := c.lst h e
      exact ⟨_, vs, rfl, h1, h2⟩
  | _ => cases e
theorem rep_items {w : W} {v : V} {xs : List W} (c : Cells K H m f cs) (r : Rep K H m f (Mi.fz w) v) (e : Mi.items cs w = some xs) : ∃ a vs, v = .ref a ∧ (SqL K H a vs ∨ SqT K H a vs) ∧ Reps K H m f xs vs := by
  cases w with
  | tup ys =>
    cases e
    obtain ⟨a, vs, h1, h2, h3⟩ := SqT.ofRep r
    exact ⟨a, vs, h1, .inr h2, h3⟩
  | lst ys =>
    obtain ⟨a, vs, h1, h2, h3⟩ := rep_itemsL (w := .lst ys) c r e
    exact ⟨a, vs, h1, .inl (SqL.of h2), h3⟩
  | new ys =>
    obtain ⟨a, vs, h1, h2, h3⟩ := rep_itemsL (w := .new ys) c r e
    exact ⟨a, vs, h1, .inl (SqL.of h2), h3⟩
  | scr ys =>
    cases e
    cases r with
    | scr h1 _ _ h3 => exact ⟨_, _, rfl, .inl (.inl h1), h3⟩
    | kscr h1 h3 => exact ⟨_, _, rfl, .inl (.inr h1), h3⟩
  | ref n =>
    obtain ⟨a, vs, h1, h2, h3⟩ := rep_itemsL (w := .ref n) c r e
    exact ⟨a, vs, h1, .inl (SqL.of h2), h3⟩
  | _ => cases e
end

/-! ### binary operators -/
def bopOf : Mi.Bop → Operator
  | .add => .Add | .sub => .Sub | .mul => .Mult | .fdiv => .FloorDiv | .mod => .Mod | .pow => .Pow
  | .shl => .LShift | .shr => .RShift | .band => .BitAnd | .bor => .BitOr | .bxor => .BitXor
/-- what is asked of two values for an operation f of the evaluator -/
def rvB (K : PySem.W.Frag) (fn : W → W → List Ob → R W) : R2 := fun x y H Q => ∃ (wa wb : W) (cs : List Ob) (m f : List Addr), Rep K H m f (Mi.fz wa) x ∧ Rep K H m f (Mi.fz wb) y ∧ Cells K H m f cs ∧
  Rq (fn wa wb cs) fun w cs' => ∀ v H' m', Keep H H' m m' → Out K H m f H' m' w cs' v → Q v H'
section
variable {X : Cx}
theorem bopI_ok {op : Mi.Bop} {i j k : Int} {pins : List (Addr × Obj)} {s : Shared} {σ : LS} {H : Hp} {v u : Value} {Q : VK} (I : Inv X pins σ H s) (rx : RelV (.int i) v) (ry : RelV (.int j) u) (e : Mi.bopI op i j = some k) (q : Q (.int k) H) :
    wpAny (model X.prog X.w) X.A (binaryOp (bopOf op) v u) (EP X pins σ Q) X.xe s := by
  cases op with
  | add =>
    cases e
    exact op_add pins s σ H _ _ v u Q I rx ry ⟨i, j, rfl, rfl, q⟩
  | sub =>
    cases e
    exact op_sub pins s σ H _ _ v u Q I rx ry ⟨i, j, rfl, rfl, q⟩
  | mul =>
    simp only [Mi.bopI] at e
    split at e
    · rename_i h
      cases e
      refine op_mul pins s σ H _ _ v u Q I rx ry ⟨i, j, rfl, rfl, ?_, q⟩
      unfold Mi.mulOk Mi.big at h
      rcases Bool.or_eq_true_iff.mp h with h | h
      · obtain ⟨h1, h2⟩ := Bool.and_eq_true_iff.mp h
        have g1 := of_decide_eq_true h1
        have g2 := of_decide_eq_true h2
        exact .inl ⟨by omega, by omega⟩
      · obtain ⟨h1, h2⟩ := Bool.and_eq_true_iff.mp h
        have g1 := of_decide_eq_true h1
        have g2 := of_decide_eq_true h2
        exact .inr ⟨by omega, by omega⟩
    · cases e
  | fdiv =>
    simp only [Mi.bopI] at e
    split at e
    · rename_i h
      cases e
      refine op_fdiv pins s σ H _ _ v u Q I rx ry ⟨i, j, rfl, rfl, ⟨h.1, h.2⟩, q⟩
    · cases e
  | mod =>
    simp only [Mi.bopI] at e
    split at e
    · rename_i h
      cases e
      exact op_mod pins s σ H _ _ v u Q I rx ry ⟨i, j, rfl, rfl, h, q⟩
    · cases e
  | pow =>
    simp only [Mi.bopI] at e
    split at e
    · rename_i h
      cases e
      exact op_pow pins s σ H _ _ v u Q I rx ry ⟨i, j, rfl, rfl, ⟨h.1, by omega, by omega⟩, q⟩
    · cases e
  | shl =>
    simp only [Mi.bopI] at e
    split at e
    · rename_i h
      cases e
      exact op_shl pins s σ H _ _ v u Q I rx ry ⟨i, j, rfl, rfl, ⟨h.1, by omega, by omega⟩, q⟩
    · cases e
  | shr =>
    simp only [Mi.bopI] at e
    split at e
    · rename_i h
      cases e
      exact op_shr pins s σ H _ _ v u Q I rx ry ⟨i, j, rfl, rfl, h, q⟩
    · cases e
  | band => cases e
  | bor => cases e
  | bxor => cases e
theorem vs_nil {ws : List W} {vs : List V} {K : PySem.W.Frag} {H : Hp} {m f : List Addr} (r : Reps K H m f ws vs) : vs = [] ↔ ws = [] := by
  cases r <;> simp
theorem op_bop (op : Mi.Bop) : OpR X (binaryOp (bopOf op)) (rvB X.K (Mi.bop op)) := by
  intro pins s σ H x y v u Q I rx ry ⟨wa, wb, cs, m, f, ra, rb, c, h⟩
  unfold Mi.bop at h
  split at h
  · -- two ints
    rename_i i j
    cases ra
    cases rb
    split at h
    · rename_i k e
      exact bopI_ok I rx ry e (h _ H m Keep.refl (.old (.int k) c))
    · exact h.elim
  · -- two tuples
    rename_i xs ys _
    obtain ⟨a, va, e1, q1, p1⟩ := SqT.ofRep ra
    obtain ⟨b, vb, e2, q2, p2⟩ := SqT.ofRep rb
    subst e1 e2
    unfold Mi.mkTup at h
    split at h
    · rename_i hz
      have hz' : va.length + vb.length ≤ sizeLine := by
        rw [← p1.length, ← p2.length, ← List.length_append]
        exact sl_le hz
      refine op_catA pins s σ H _ _ v u Q I rx ry ⟨a, b, va, vb, rfl, rfl, q1, q2, hz', fun e => ?_, fun _ e => ?_, fun _ _ p hp => ?_⟩
      · have e' := (vs_nil p1).mp e
        subst e'
        exact h _ H m Keep.refl (.old rb c)
      · have e' := (vs_nil p2).mp e
        subst e'
        rw [List.append_nil] at h
        exact h _ H m Keep.refl (.old ra c)
      · exact h _ _ m (Keep.new hp) (out_tup c hp (p1.append p2))
    · exact h.elim
  · -- two lists
    rename_i a b _ _
    split at h
    · rename_i xs ys e1 e2
      obtain ⟨a, va, f1, q1, p1⟩ := rep_itemsL c ra e1
      obtain ⟨b, vb, f2, q2, p2⟩ := rep_itemsL c rb e2
      subst f1 f2
      unfold Mi.mkNew at h
      split at h
      · rename_i hz
        refine op_cat pins s σ H _ _ v u Q I rx ry ⟨a, b, va, vb, rfl, rfl, q1, q2, ?_, fun p hp => ?_⟩
        · rw [← p1.length, ← p2.length, ← List.length_append]
          exact sl_le hz
        · exact h _ _ m (Keep.new hp) (out_new c hp (p1.append p2))
      · exact h.elim
    · exact h.elim
  · -- tuple * int
    rename_i xs j
    obtain ⟨a, va, e1, q1, p1⟩ := SqT.ofRep ra
    subst e1
    cases rb
    split at h
    · rename_i hc
      unfold Mi.mkTup at h
      split at h
      · refine op_repT pins s σ H _ _ v u Q I rx ry ⟨a, j, va, rfl, rfl, q1, fun e => hc.2.2.2 ((vs_nil p1).mp e), hc.1, hc.2.1, by rw [← p1.length]; exact hc.2.2.1, fun p hp => ?_⟩
        exact h _ _ m (Keep.new hp) (out_tup c hp (p1.rep _))
      · exact h.elim
    · exact h.elim
  · -- list * int
    rename_i a j _ _
    cases rb
    split at h
    · rename_i xs e1
      obtain ⟨a, va, f1, q1, p1⟩ := rep_itemsL c ra e1
      subst f1
      split at h
      · rename_i hc
        unfold Mi.mkNew at h
        split at h
        · rename_i hz
          refine op_rep pins s σ H _ _ v u Q I rx ry ⟨a, j, va, rfl, rfl, q1, by omega, by omega, ?_, fun p hp => ?_⟩
          · rw [PyProof.Rows.lm_len_rep_flat] at hz
            rw [← p1.length, Nat.mul_comm]
            exact sl_le hz
          · exact h _ _ m (Keep.new hp) (out_new c hp (p1.rep _))
        · exact h.elim
      · exact h.elim
    · exact h.elim
  · exact h.elim
end

/-! ### comparisons -/
def copOf : Mi.Cop → CmpOp
  | .eq => .Eq | .ne => .NotEq | .lt => .Lt | .le => .LtE | .gt => .Gt | .ge => .GtE | .isin => .In | .notin => .NotIn | .isN => .Is | .notN => .IsNot
mutual
def pd : W → PyData
  | .bl b => .bool b
  | .int i => .int i
  | .str s => .str s
  | .tup xs => .tuple (pds xs)
  | .lst xs => .list (pds xs)
  | _ => .none
def pds : List W → List PyData
  | [] => []
  | x :: xs => pd x :: pds xs
end
section
variable {K : PySem.W.Frag} {H : Hp} {m f : List Addr} {cs : List Ob}
theorem derefL_dp {d : W → Option W} {g : W → Bool} (hf : ∀ w w' v, Rep K H m f w v → d w = some w' → g w' = true → Dp K H v (pd w')) : ∀ {ws ws' : List W} {vs : List V}, Reps K H m f ws vs → Mi.derefL d ws = some ws' → ws'.all g = true → DpAll K H vs (pds ws')
  | _, _, _, .nil, e, _ => by
    cases e
    exact .nil
  | _, _, _, .cons (w := w) (ws := ws) r t, e, hg => by
    unfold Mi.derefL at e
    split at e
    · rename_i v vs e1 e2
      cases e
      rw [List.all_cons, Bool.and_eq_true] at hg
      exact .cons (hf _ _ _ r e1 hg.1) (derefL_dp hf t e2 hg.2)
    · cases e
theorem deref_dp (c : Cells K H m f cs) : ∀ (k : Nat) (w w' : W) (v : V), Rep K H m f (Mi.fz w) v → Mi.deref cs k w = some w' → Mi.okW k w' = true → Dp K H v (pd w')
  | 0, _, _, _, _, e, _ => by cases e
  | k + 1, w, w', v, r, e, hg => by
    have ih : ∀ w w' v, Rep K H m f w v → Mi.deref cs k w = some w' → Mi.okW k w' = true → Dp K H v (pd w') := fun w w' v r e hg => deref_dp c k w w' v r.fz e hg
    cases w with
    | non => cases e; cases r; exact .non
    | bl b => cases e; cases r; exact .bl b
    | int i => cases e; cases r; exact .int i
    | str x => cases e; cases r; exact .str x
    | scr xs =>
      simp only [Mi.deref, Option.map_eq_some_iff] at e
      obtain ⟨ys, e1, e2⟩ := e
      subst e2
      cases hg
    | tup xs =>
      simp only [Mi.deref, Option.map_eq_some_iff] at e
      obtain ⟨ys, e1, e2⟩ := e
      subst e2
      obtain ⟨a, vs, f1, q1, p1⟩ := SqT.ofRep r
      subst f1
      exact .tup q1 (derefL_dp ih p1 e1 hg)
    | lst xs =>
      simp only [Mi.deref, Option.map_eq_some_iff] at e
      obtain ⟨ys, e1, e2⟩ := e
      subst e2
      cases r with
      | lst h1 _ _ h3 => exact .lst (SqL.of h1) (derefL_dp ih h3 e1 hg)
    | new xs =>
      simp only [Mi.deref, Option.map_eq_some_iff] at e
      obtain ⟨ys, e1, e2⟩ := e
      subst e2
      cases r with
      | lst h1 _ _ h3 => exact .lst (SqL.of h1) (derefL_dp ih h3 e1 hg)
    | ref n =>
      simp only [Mi.deref] at e
      split at e
      · rename_i xs e0
        simp only [Option.map_eq_some_iff] at e
        obtain ⟨ys, e1, e2⟩ := e
        subst e2
        cases r with
        | ref hr =>
          obtain ⟨vs, h1, h2⟩ := c.lst hr e0
          exact .lst (SqL.of h1) (derefL_dp ih h2 e1 hg)
      · cases e
theorem okAll {k : Nat} (ih : ∀ w, Mi.okW k w = true → (pd w).canLay0 = true ∧ (pd w).depth ≤ k) : ∀ ws : List W, ws.all (Mi.okW k) = true → PyData.canLayAll0 (pds ws) = true ∧ PyData.depthAll (pds ws) ≤ k
  | [], _ => by
    simp [pds, PyData.canLayAll0, PyData.depthAll]
  | w :: ws, h => by
    rw [List.all_cons, Bool.and_eq_true] at h
    obtain ⟨h1, h2⟩ := ih w h.1
    obtain ⟨h3, h4⟩ := okAll ih ws h.2
    simp only [pds, PyData.canLayAll0, PyData.depthAll, h1, h3, Bool.and_self, true_and]
    omega
theorem ok_pd : ∀ (k : Nat) (w : W), Mi.okW k w = true → (pd w).canLay0 = true ∧ (pd w).depth ≤ k
  | 0, _, h => by cases h
  | k + 1, w, h => by
    cases w with
    | non => simp [pd, PyData.canLay0, PyData.depth]
    | bl b => simp [pd, PyData.canLay0, PyData.depth]
    | int i => simp [pd, PyData.canLay0, PyData.depth]
    | str x =>
      refine ⟨?_, ?_⟩
      · simp only [pd, PyData.canLay0]
        exact h
      · simp [pd, PyData.depth]
    | tup xs =>
      obtain ⟨h1, h2⟩ := okAll (ok_pd k) xs h
      simp only [pd, PyData.canLay0, PyData.depth, h1, true_and]
      omega
    | lst xs =>
      obtain ⟨h1, h2⟩ := okAll (ok_pd k) xs h
      simp only [pd, PyData.canLay0, PyData.depth, h1, true_and]
      omega
    | new xs => cases h
    | ref n => cases h
    | scr xs => cases h
theorem shaped_pd {w : W} (h : Mi.okW Mi.deep w = true) : SeqAt.shaped (pd w) = true := by
  obtain ⟨h1, h2⟩ := ok_pd _ w h
  unfold SeqAt.shaped
  rw [h1, Bool.true_and]
  exact decide_eq_true (Nat.le_trans h2 (by decide))
theorem eqW_pds {k : Nat} (ih : ∀ x y, Mi.okW k x = true → Mi.okW k y = true → Mi.eqW x y = PyData.eqv (pd x) (pd y)) : ∀ xs ys : List W, xs.all (Mi.okW k) = true → ys.all (Mi.okW k) = true → Mi.eqWs xs ys = PyData.eqvAll (pds xs) (pds ys)
  | [], [], _, _ => by simp [Mi.eqWs, pds, PyData.eqvAll]
  | [], _ :: _, _, _ => by simp [Mi.eqWs, pds, PyData.eqvAll]
  | _ :: _, [], _, _ => by simp [Mi.eqWs, pds, PyData.eqvAll]
  | x :: xs, y :: ys, h1, h2 => by
    rw [List.all_cons, Bool.and_eq_true] at h1 h2
    simp only [Mi.eqWs, pds, PyData.eqvAll, ih x y h1.1 h2.1, eqW_pds ih xs ys h1.2 h2.2]
theorem eqW_pd : ∀ (k : Nat) (x y : W), Mi.okW k x = true → Mi.okW k y = true → Mi.eqW x y = PyData.eqv (pd x) (pd y)
  | 0, _, _, h, _ => by cases h
  | k + 1, x, y, h1, h2 => by
    have ih := eqW_pds (eqW_pd k)
    cases x with
    | new xs => cases h1
    | ref n => cases h1
    | scr xs => cases h1
    | tup xs =>
      cases y with
      | tup ys =>
        simp only [Mi.eqW, pd, PyData.eqv]
        exact ih xs ys h1 h2
      | new ys => cases h2
      | ref n => cases h2
      | scr ys => cases h2
      | _ => simp [Mi.eqW, pd, PyData.eqv]
    | lst xs =>
      cases y with
      | lst ys =>
        simp only [Mi.eqW, pd, PyData.eqv]
        exact ih xs ys h1 h2
      | new ys => cases h2
      | ref n => cases h2
      | scr ys => cases h2
      | _ => simp [Mi.eqW, pd, PyData.eqv]
    | _ =>
      cases y with
      | new ys => cases h2
      | ref n => cases h2
      | scr ys => cases h2
      | _ => simp [Mi.eqW, pd, PyData.eqv]
theorem flatV_of {w : W} {v : V} (r : Rep K H m f w v) (h : Mi.isFlatW w = true) : flatV v = true := by
  cases r <;> first | rfl | cases h
theorem flatVs_of : ∀ {ws : List W} {vs : List V}, Reps K H m f ws vs → ws.all Mi.isFlatW = true → vs.all flatV = true
  | _, _, .nil, _ => rfl
  | _, _, .cons r t, h => by
    rw [List.all_cons, Bool.and_eq_true] at h
    rw [List.all_cons, Bool.and_eq_true]
    exact ⟨flatV_of r h.1, flatVs_of t h.2⟩
theorem eqV_of {a b : W} {x y : V} (ra : Rep K H m f a x) (rb : Rep K H m f b y) (ha : Mi.isFlatW a = true) (hb : Mi.isFlatW b = true) : eqV x y = Mi.eqW a b := by
  cases ra <;> first | (cases ha; done) | skip
  all_goals (cases rb <;> first | (simp [eqV, Mi.eqW]; done) | cases hb)
theorem inV_of {a : W} {x : V} (ra : Rep K H m f a x) (ha : Mi.isFlatW a = true) : ∀ {ws : List W} {vs : List V}, Reps K H m f ws vs → ws.all Mi.isFlatW = true → inV x vs = ws.any fun y => Mi.eqW y a
  | _, _, .nil, _ => rfl
  | _, _, .cons r t, h => by
    rw [List.all_cons, Bool.and_eq_true] at h
    have ih := inV_of ra ha t h.2
    unfold inV at ih ⊢
    rw [List.any_cons, List.any_cons, ih, eqV_of r ra h.1 ha]
theorem intsW_of : ∀ {xs : List W} {vs : List V} {ns : List Int}, Reps K H m f xs vs → Mi.intsW xs = some ns → vs = ns.map V.int
  | _, _, _, .nil, e => by
    cases e
    rfl
  | _, _, _, .cons (w := w) r t, e => by
    cases r <;> first | cases e | skip
    simp only [Mi.intsW, Option.map_eq_some_iff] at e
    obtain ⟨ms, e1, e2⟩ := e
    subst e2
    rw [intsW_of t e1] <;> rfl
theorem lexI_eq : ∀ ns ms : List Int, Mi.lexI ns ms = HT.lexLt ns ms
  | [], [] => rfl
  | [], _ :: _ => rfl
  | _ :: _, [] => rfl
  | a :: as, b :: bs => by
    unfold Mi.lexI HT.lexLt
    rw [lexI_eq as bs]
end
def rvC (K : PySem.W.Frag) (fn : W → W → List Ob → Option Bool) : R2 := fun x y H Q => ∃ (wa wb : W) (cs : List Ob) (m f : List Addr) (k : Bool), Rep K H m f (Mi.fz wa) x ∧ Rep K H m f (Mi.fz wb) y ∧ Cells K H m f cs ∧ fn wa wb cs = some k ∧ Q (.bl k) H
section
variable {X : Cx}
theorem op_cop (hu : X.A.units + 64 < cLine) (op : Mi.Cop) : OpR X (compareOp (copOf op)) (rvC X.K (Mi.cop op)) := by
  intro pins s σ H x y v u Q I rx ry ⟨wa, wb, cs, m, f, k, ra, rb, c, h, q⟩
  cases op with
  | eq =>
    simp only [Mi.cop] at h
    split at h
    · rename_i a b e1 e2
      split at h
      · rename_i hk
        rw [Bool.and_eq_true] at hk
        cases h
        exact op_eqD hu pins s σ H _ _ v u Q I rx ry ⟨pd a, pd b, deref_dp c _ _ _ _ ra e1 hk.1, deref_dp c _ _ _ _ rb e2 hk.2, shaped_pd hk.1, shaped_pd hk.2, by rw [← eqW_pd _ a b hk.1 hk.2]; exact q⟩
      · cases h
    · cases h
  | ne =>
    simp only [Mi.cop] at h
    split at h
    · rename_i a b e1 e2
      split at h
      · rename_i hk
        rw [Bool.and_eq_true] at hk
        cases h
        exact op_neD hu pins s σ H _ _ v u Q I rx ry ⟨pd a, pd b, deref_dp c _ _ _ _ ra e1 hk.1, deref_dp c _ _ _ _ rb e2 hk.2, shaped_pd hk.1, shaped_pd hk.2, by rw [← eqW_pd _ a b hk.1 hk.2]; exact q⟩
      · cases h
    · cases h
  | lt =>
    simp only [Mi.cop] at h
    split at h
    · cases h
      cases ra
      cases rb
      exact op_lt pins s σ H _ _ v u Q I rx ry ⟨_, _, rfl, rfl, q⟩
    · split at h
      · rename_i ns ms e1 e2
        cases h
        obtain ⟨a, va, f1, q1, p1⟩ := SqT.ofRep ra
        obtain ⟨b, vb, f2, q2, p2⟩ := SqT.ofRep rb
        subst f1 f2
        rw [intsW_of p1 e1] at q1
        rw [intsW_of p2 e2] at q2
        exact op_ltT (by omega) pins s σ H _ _ v u Q I rx ry ⟨a, b, ns, ms, rfl, rfl, q1, q2, by rw [← lexI_eq]; exact q⟩
      · cases h
    · cases h
  | le =>
    simp only [Mi.cop] at h
    split at h
    · cases h
      cases ra
      cases rb
      exact op_le pins s σ H _ _ v u Q I rx ry ⟨_, _, rfl, rfl, q⟩
    · cases h
  | gt =>
    simp only [Mi.cop] at h
    split at h
    · cases h
      cases ra
      cases rb
      exact op_gt pins s σ H _ _ v u Q I rx ry ⟨_, _, rfl, rfl, q⟩
    · cases h
  | ge =>
    simp only [Mi.cop] at h
    split at h
    · cases h
      cases ra
      cases rb
      exact op_ge pins s σ H _ _ v u Q I rx ry ⟨_, _, rfl, rfl, q⟩
    · cases h
  | isin =>
    simp only [Mi.cop] at h
    split at h
    · rename_i ys e
      split at h
      · rename_i hk
        rw [Bool.and_eq_true] at hk
        cases h
        obtain ⟨a, vs, f1, q1, p1⟩ := rep_items c rb e
        subst f1
        have hf : Mi.isFlatW (Mi.fz wa) = true := by
          cases wa <;> first | exact hk.1 | cases hk.1
        have e2 := inV_of ra hf p1 hk.2
        have e3 : (ys.any fun y => Mi.eqW y wa) = ys.any fun y => Mi.eqW y (Mi.fz wa) := by
          cases wa <;> first | rfl | cases hk.1
        refine op_in_seq pins s σ H _ _ v u Q I rx ry ⟨a, vs, rfl, q1, flatV_of ra hf, flatVs_of p1 hk.2, ?_⟩
        rw [if_neg Bool.false_ne_true, e2, ← e3]
        exact q
      · cases h
    · cases h
  | notin =>
    simp only [Mi.cop] at h
    split at h
    · rename_i ys e
      split at h
      · rename_i hk
        rw [Bool.and_eq_true] at hk
        cases h
        obtain ⟨a, vs, f1, q1, p1⟩ := rep_items c rb e
        subst f1
        have hf : Mi.isFlatW (Mi.fz wa) = true := by
          cases wa <;> first | exact hk.1 | cases hk.1
        have e2 := inV_of ra hf p1 hk.2
        have e3 : (ys.any fun y => Mi.eqW y wa) = ys.any fun y => Mi.eqW y (Mi.fz wa) := by
          cases wa <;> first | rfl | cases hk.1
        refine op_notIn_seq pins s σ H _ _ v u Q I rx ry ⟨a, vs, rfl, q1, flatV_of ra hf, flatVs_of p1 hk.2, ?_⟩
        rw [if_pos rfl, e2, ← e3]
        exact q
      · cases h
    · cases h
  | isN =>
    simp only [Mi.cop] at h
    split at h
    · cases h
      cases rb
      refine op_isN pins s σ H _ _ v u Q I rx ry ⟨rfl, ?_⟩
      cases wa <;> cases ra <;> simpa using q
    · cases h
  | notN =>
    simp only [Mi.cop] at h
    split at h
    · cases h
      cases rb
      refine op_notN pins s σ H _ _ v u Q I rx ry ⟨rfl, ?_⟩
      cases wa <;> cases ra <;> simpa using q
    · cases h
end
end So
end S_Vals

section S_Vals2
set_option Elab.async false
set_option linter.all false
set_option maxRecDepth 100000
set_option maxHeartbeats 4000000
/-! Vals2: places, slices, built-in functions, methods of lists. -/
namespace So
open PySem PySem.Spec PyProof.Rows L2
open Mi (W Ob Xn R Orc)

/-! ### places -/
theorem place_eq (n : Nat) (i : Int) : Mi.place n i = ixN n i := rfl
theorem bound_eq (n d : Nat) : ∀ o : Option Int, Mi.bound n d o = HT.sIx n d o
  | none => rfl
  | some _ => rfl
section
variable {K : PySem.W.Frag} {H : Hp} {m f : List Addr} {cs : List Ob}
theorem at_of {xs : List W} {vs : List V} {i : Int} {w : W} (r : Reps K H m f xs vs) (h : Mi.at? xs i = some w) : ∃ v, atI vs i = some v ∧ Rep K H m f w v := by
  unfold Mi.at? at h
  cases e : Mi.place xs.length i with
  | none =>
    rw [e] at h
    cases h
  | some j =>
    rw [e] at h
    obtain ⟨v, h1, h2⟩ := r.get h
    refine ⟨v, ?_, h2⟩
    unfold atI
    rw [← r.length, ← place_eq, e]
    exact h1
theorem cut_of {xs : List W} {vs : List V} (r : Reps K H m f xs vs) (lo hi : Option Int) : Reps K H m f (Mi.cut xs lo hi) (cutV vs lo hi) := by
  unfold Mi.cut cutV
  rw [bound_eq, bound_eq, r.length]
  exact (r.drop _).take _
theorem nodup_at {α : Type} : ∀ {l : List α} {i j : Nat} {x : α}, l.Nodup → l[i]? = some x → l[j]? = some x → i = j
  | [], _, _, _, _, h, _ => by simp at h
  | a :: l, 0, 0, _, _, _, _ => rfl
  | a :: l, 0, j + 1, x, nd, h, q => by
    have e : a = x := by simpa using h
    have q' : l[j]? = some x := by simpa using q
    exact absurd (e ▸ List.mem_of_getElem? q') (List.nodup_cons.mp nd).1
  | a :: l, i + 1, 0, x, nd, h, q => by
    have e : a = x := by simpa using q
    have q' : l[i]? = some x := by simpa using h
    exact absurd (e ▸ List.mem_of_getElem? q') (List.nodup_cons.mp nd).1
  | a :: l, i + 1, j + 1, x, nd, h, q => congrArg (· + 1) (nodup_at (List.nodup_cons.mp nd).2 (by simpa using h) (by simpa using q))
/-- a cell gets a new list -/
theorem Cells.set {n : Nat} {a : Addr} {xs : List W} {vs : List V} (c : Cells K H m f cs) (h : m[n]? = some a) (r : Reps K H m f xs vs) : Cells K (upd H a (.lst vs)) m f (cs.set n (.lst xs)) := by
  have ka : a ∈ m := List.mem_of_getElem? h
  have k : Keep H (upd H a (.lst vs)) m m := Keep.cell ka
  refine ⟨by rw [List.length_set]; exact c.len, c.nd, fun b hb e => c.fd b hb (k.dom b e), c.fm, fun j b o h1 h2 => ?_⟩
  by_cases z : j = n
  · subst z
    rw [h] at h1
    cases h1
    have hl : j < cs.length := by
      rw [c.len]
      exact (List.getElem?_eq_some_iff.mp h).1
    rw [List.getElem?_set_self hl] at h2
    cases h2
    exact ⟨vs, upd_same, r.mono k⟩
  · rw [List.getElem?_set_ne (Ne.symm z)] at h2
    have hb : b ≠ a := fun e => by
      subst e
      have h3 := (List.getElem?_eq_some_iff.mp h).1
      have h4 := (List.getElem?_eq_some_iff.mp h1).1
      have e1 : m[n] = b := (List.getElem?_eq_some_iff.mp h).2
      have e2 : m[j] = b := (List.getElem?_eq_some_iff.mp h1).2
      exact z (nodup_at c.nd h1 h)
    have q := c.at_ j b o h1 h2
    cases o with
    | lst ys =>
      obtain ⟨zs, q1, q2⟩ := q
      exact ⟨zs, by rw [upd_ne hb]; exact q1, q2.mono k⟩
    | ins x fs => exact q
end
def rvI (K : PySem.W.Frag) : R2 := fun x y H Q => ∃ (wa wb w : W) (cs : List Ob) (m f : List Addr), Rep K H m f (Mi.fz wa) x ∧ Rep K H m f (Mi.fz wb) y ∧ Cells K H m f cs ∧ Mi.subW wa wb cs = some w ∧ ∀ v, Rep K H m f w v → Q v H
def rvSl (K : PySem.W.Frag) : V → Option Int → Option Int → Hp → VK → Prop := fun x lo hi H Q => ∃ (wa : W) (cs : List Ob) (m f : List Addr), Rep K H m f (Mi.fz wa) x ∧ Cells K H m f cs ∧
  Rq (Mi.sliceW wa lo hi cs) fun w cs' => ∀ v H' m', Keep H H' m m' → Out K H m f H' m' w cs' v → Q v H'
def rvF (K : PySem.W.Frag) (fn : List W → List Ob → R W) : List V → Hp → VK → Prop := fun vs H Q => ∃ (ws : List W) (cs : List Ob) (m f : List Addr), Reps K H m f ws vs ∧ Cells K H m f cs ∧
  Rq (fn ws cs) fun w cs' => ∀ v H' m', Keep H H' m m' → Out K H m f H' m' w cs' v → Q v H'
def rvM (K : PySem.W.Frag) (t : Mi.Mth) : V → List V → Hp → VK → Prop := fun x vs H Q => ∃ (wo : W) (ws : List W) (cs : List Ob) (m f : List Addr), Rep K H m f (Mi.fz wo) x ∧ Reps K H m f ws vs ∧ Cells K H m f cs ∧
  Rq (Mi.meth t wo ws cs) fun w cs' => ∀ v H' m', Keep H H' m m' → Out K H m f H' m' w cs' v → Q v H'
section
variable {X : Cx}
theorem ix_sub : IxR X (rvI X.K) := by
  intro value slice pins s σ H x y v u Q I rx ry ⟨wa, wb, w, cs, m, f, ra, rb, c, h, q⟩ hs
  unfold Mi.subW at h
  split at h
  · rename_i k
    cases rb
    split at h
    · rename_i xs e
      obtain ⟨a, vs, f1, q1, p1⟩ := rep_items c ra e
      subst f1
      obtain ⟨z, z1, z2⟩ := at_of p1 h
      rcases q1 with q1 | q1
      · exact ix_list value slice pins s σ H _ _ v u Q I rx ry ⟨a, vs, k, z, rfl, rfl, q1, z1, q z z2⟩ hs
      · exact ix_tup value slice pins s σ H _ _ v u Q I rx ry ⟨a, vs, k, z, rfl, rfl, q1, z1, q z z2⟩ hs
    · cases h
  · cases h
theorem sl_slice : SlR X (rvSl X.K) := by
  intro pins s σ H x v vl vu lo hi sl Q I rx hs pl pu ⟨wa, cs, m, f, ra, c, h⟩
  unfold Mi.sliceW at h
  split at h
  · rename_i xs
    obtain ⟨a, vs, f1, q1, p1⟩ := SqT.ofRep ra
    subst f1
    unfold Mi.mkTup at h
    split at h
    · refine sl_tupA pins s σ H _ v vl vu lo hi sl Q I rx hs pl pu ⟨a, vs, rfl, q1, fun e => ?_, fun _ p hp => ?_⟩
      · have e2 : Mi.cut xs lo hi = xs := by
          unfold Mi.cut
          rw [bound_eq, bound_eq, p1.length, e.1, e.2, List.drop_zero, Nat.sub_zero, ← p1.length, List.take_length]
        rw [e2] at h
        exact h _ H m Keep.refl (.old ra c)
      · exact h _ _ m (Keep.new hp) (out_tup c hp (cut_of p1 lo hi))
    · exact h.elim
  · rename_i xs
    cases ra with
    | scr h1 _ _ h3 =>
      unfold Mi.mkNew at h
      split at h
      · exact sl_list pins s σ H _ v vl vu lo hi sl Q I rx hs pl pu ⟨_, _, rfl, .inl h1, fun p hp => h _ _ m (Keep.new hp) (out_new c hp (cut_of h3 lo hi))⟩
      · exact h.elim
    | kscr h1 h3 =>
      unfold Mi.mkNew at h
      split at h
      · exact sl_list pins s σ H _ v vl vu lo hi sl Q I rx hs pl pu ⟨_, _, rfl, .inr h1, fun p hp => h _ _ m (Keep.new hp) (out_new c hp (cut_of h3 lo hi))⟩
      · exact h.elim
  · split at h
    · rename_i xs e
      obtain ⟨a, vs, f1, q1, p1⟩ := rep_itemsL c ra e
      subst f1
      unfold Mi.mkNew at h
      split at h
      · exact sl_list pins s σ H _ v vl vu lo hi sl Q I rx hs pl pu ⟨a, vs, rfl, SqL.of q1, fun p hp => h _ _ m (Keep.new hp) (out_new c hp (cut_of p1 lo hi))⟩
      · exact h.elim
    · exact h.elim
/-! ### methods -/
theorem mt_append2 : MtR X "list.append" (rvM X.K .append) := by
  intro pins s σ H x vs v us Q I rx rs ⟨wo, ws, cs, m, f, ro, rw', c, h⟩
  unfold Mi.meth at h
  split at h
  · rename_i n
    split at h
    · rename_i xs e
      cases ro with
      | ref hm =>
        split at h
        · rename_i w e1
          cases rw' with
          | cons r1 r2 =>
            cases r2
            split at h
            · rename_i hz
              obtain ⟨zs, h1, h2⟩ := c.lst hm e
              have hz' : zs.length < sizeLine := by
                rw [← h2.length, sizeLine_eq]
                unfold Mi.lim at hz
                omega
              refine mt_append pins s σ H _ _ v us Q I rx rs ⟨_, zs, _, rfl, rfl, h1, hz', ?_⟩
              exact h _ _ m (Keep.cell (List.mem_of_getElem? hm)) (.old .non (c.set hm (h2.append (.cons r1 .nil))))
            · exact h.elim
        all_goals first | exact h.elim | (rename_i q; cases q)
    · exact h.elim
  · exact h.elim
theorem mt_pop2 : MtR X "list.pop" (fun x vs H Q => rvM X.K .pop x vs H Q ∨ rvM X.K .popAt x vs H Q) := by
  refine MtR.or (r := rvM X.K .pop) (r' := rvM X.K .popAt) ?_ ?_
  · intro pins s σ H x vs v us Q I rx rs ⟨wo, ws, cs, m, f, ro, rw', c, h⟩
    unfold Mi.meth at h
    split at h
    · rename_i n
      split at h
      · rename_i xs e
        cases ro with
        | ref hm =>
          split at h
          · rename_i q
            cases q
          · cases rw'
            split at h
            · rename_i y ey
              obtain ⟨zs, h1, h2⟩ := c.lst hm e
              obtain ⟨z, z1, z2⟩ := h2.get ey
              rw [h2.length] at z1
              have k := Keep.cell (H := H) (o := HO.lst zs.dropLast) (List.mem_of_getElem? hm)
              exact mt_pop pins s σ H _ _ v us Q I rx rs ⟨_, zs, z, rfl, rfl, h1, z1, h z _ m k (.old (z2.mono k) (c.set hm h2.dropLast))⟩
            · exact h.elim
          all_goals first | exact h.elim | (rename_i q; cases q)
      · exact h.elim
    · exact h.elim
  · intro pins s σ H x vs v us Q I rx rs ⟨wo, ws, cs, m, f, ro, rw', c, h⟩
    unfold Mi.meth at h
    split at h
    · rename_i n
      split at h
      · rename_i xs e
        cases ro with
        | ref hm =>
          split at h
          · rename_i q
            cases q
          · rename_i q
            cases q
          · rename_i i q
            cases rw' with
            | cons r1 r2 =>
              cases r2
              cases r1
              split at h
              · rename_i k ek
                split at h
                · rename_i y ey
                  obtain ⟨zs, h1, h2⟩ := c.lst hm e
                  obtain ⟨z, z1, z2⟩ := h2.get ey
                  rw [place_eq, h2.length] at ek
                  obtain ⟨g1, g2, g3, g4⟩ := ixN_seq ek
                  have hl := (I.lstM h1).1
                  have hn := line63
                  have kk := Keep.cell (H := H) (o := HO.lst (zs.eraseIdx k)) (List.mem_of_getElem? hm)
                  exact mt_popAt pins s σ H _ _ v us Q I rx rs ⟨_, zs, _, k, z, rfl, rfl, h1, by omega, by omega, g1, z1, h z _ m kk (.old (z2.mono kk) (c.set hm (h2.eraseIdx k)))⟩
                · exact h.elim
              · exact h.elim
          all_goals first | exact h.elim | (rename_i q; cases q)
      · exact h.elim
    · exact h.elim
theorem mt_extend2 : MtR X "list.extend" (rvM X.K .extend) := by
  intro pins s σ H x vs v us Q I rx rs ⟨wo, ws, cs, m, f, ro, rw', c, h⟩
  unfold Mi.meth at h
  split at h
  · rename_i n
    split at h
    · rename_i xs e
      cases ro with
      | ref hm =>
        split at h
        · rename_i q
          cases q
        · rename_i q
          cases q
        · rename_i q
          cases q
        · rename_i wa q
          cases rw' with
          | cons r1 r2 =>
            cases r2
            split at h
            · rename_i ys ey
              split at h
              · rename_i hz
                obtain ⟨zs, h1, h2⟩ := c.lst hm e
                obtain ⟨b, us', f1, f2, f3⟩ := rep_itemsL c r1.fz ey
                subst f1
                refine mt_extend pins s σ H _ _ v us Q I rx rs ⟨_, b, zs, us', rfl, rfl, h1, f2, ?_, ?_⟩
                · rw [← h2.length, ← f3.length]
                  exact sl_le hz
                · exact h _ _ m (Keep.cell (List.mem_of_getElem? hm)) (.old .non (c.set hm (h2.append f3)))
              · exact h.elim
            · exact h.elim
        all_goals first | exact h.elim | (rename_i q; cases q)
    · exact h.elim
  · exact h.elim
/-! ### o[i] = v -/
def rvS (K : PySem.W.Frag) : V → V → V → Hp → (Hp → Prop) → Prop := fun x y z H Q => ∃ (wo wi wv : W) (cs cs' : List Ob) (m f : List Addr), Rep K H m f (Mi.fz wo) x ∧ Rep K H m f (Mi.fz wi) y ∧ Rep K H m f (Mi.fz wv) z ∧ Cells K H m f cs ∧
  Mi.setIdx wo wi (Mi.fz wv) cs = some cs' ∧ ∀ H', Keep H H' m m → Cells K H' m f cs' → Q H'
theorem set_idx : PSet X (rvS X.K) := by
  intro pins s σ H o i v ov iv u Q I ro ri rv ⟨wo, wi, wv, cs, cs', m, f, r1, r2, r3, c, h, q⟩
  unfold Mi.setIdx at h
  split at h
  · rename_i n k
    cases r2
    cases r1 with
    | ref hm =>
      split at h
      · rename_i xs e
        split at h
        · rename_i j ej
          cases h
          obtain ⟨zs, h1, h2⟩ := c.lst hm e
          rw [place_eq, h2.length] at ej
          exact set_list pins s σ H _ _ _ ov iv u Q I ro ri rv ⟨_, zs, k, j, rfl, rfl, h1, ej, q _ (Keep.cell (List.mem_of_getElem? hm)) (c.set hm (h2.set r3 j))⟩
        · cases h
      · cases h
  · cases h
/-! ### built-in functions -/
theorem one_rep {K : PySem.W.Frag} {H : Hp} {m f : List Addr} {w : W} {vs : List V} (r : Reps K H m f [w] vs) : ∃ v, vs = [v] ∧ Rep K H m f w v := by
  cases r with
  | cons r1 r2 =>
    cases r2
    exact ⟨_, rfl, r1⟩
theorem bl_of {K : PySem.W.Frag} {H : Hp} {m f : List Addr} : ∀ {xs : List W} {vs : List V} {bs : List Bool}, Reps K H m f xs vs → Mi.blsW xs = some bs → vs = bs.map V.bl
  | _, _, _, .nil, e => by
    cases e
    rfl
  | _, _, _, .cons (w := w) r t, e => by
    cases r <;> first | cases e | skip
    simp only [Mi.blsW, Option.map_eq_some_iff] at e
    obtain ⟨ms, e1, e2⟩ := e
    subst e2
    rw [bl_of t e1] <;> rfl
theorem maxI_mem : ∀ (xs : List Int) (a : Int), Mi.maxI a xs ∈ a :: xs ∧ ∀ y ∈ a :: xs, y ≤ Mi.maxI a xs
  | [], a => ⟨by simp [Mi.maxI], fun y hy => by simp at hy; subst hy; simp [Mi.maxI]⟩
  | x :: xs, a => by
    unfold Mi.maxI
    have hz : (if x > a then x else a) = x ∨ (if x > a then x else a) = a := by split <;> simp
    have hl : x ≤ (if x > a then x else a) ∧ a ≤ (if x > a then x else a) := by split <;> omega
    generalize (if x > a then x else a) = z at hz hl
    obtain ⟨h1, h2⟩ := maxI_mem xs z
    have g := h2 z List.mem_cons_self
    refine ⟨?_, fun y hy => ?_⟩
    · rcases List.mem_cons.mp h1 with e | e
      · rw [e]
        rcases hz with hz | hz <;> rw [hz] <;> simp
      · exact List.mem_cons_of_mem _ (List.mem_cons_of_mem _ e)
    · rcases List.mem_cons.mp hy with e | hy
      · subst e
        omega
      · rcases List.mem_cons.mp hy with e | hy
        · subst e
          omega
        · exact h2 y (List.mem_cons_of_mem _ hy)
theorem minI_mem : ∀ (xs : List Int) (a : Int), Mi.minI a xs ∈ a :: xs ∧ ∀ y ∈ a :: xs, Mi.minI a xs ≤ y
  | [], a => ⟨by simp [Mi.minI], fun y hy => by simp at hy; subst hy; simp [Mi.minI]⟩
  | x :: xs, a => by
    unfold Mi.minI
    have hz : (if x < a then x else a) = x ∨ (if x < a then x else a) = a := by split <;> simp
    have hl : (if x < a then x else a) ≤ x ∧ (if x < a then x else a) ≤ a := by split <;> omega
    generalize (if x < a then x else a) = z at hz hl
    obtain ⟨h1, h2⟩ := minI_mem xs z
    have g := h2 z List.mem_cons_self
    refine ⟨?_, fun y hy => ?_⟩
    · rcases List.mem_cons.mp h1 with e | e
      · rw [e]
        rcases hz with hz | hz <;> rw [hz] <;> simp
      · exact List.mem_cons_of_mem _ (List.mem_cons_of_mem _ e)
    · rcases List.mem_cons.mp hy with e | hy
      · subst e
        omega
      · rcases List.mem_cons.mp hy with e | hy
        · subst e
          omega
        · exact h2 y (List.mem_cons_of_mem _ hy)
theorem insI_perm (x : Int) : ∀ ys : List Int, (Mi.insI x ys).Perm (x :: ys)
  | [] => List.Perm.refl _
  | y :: ys => by
    unfold Mi.insI
    split
    · exact List.Perm.refl _
    · exact ((insI_perm x ys).cons y).trans (List.Perm.swap x y ys)
theorem sortI_perm : ∀ xs : List Int, (Mi.sortI xs).Perm xs
  | [] => List.Perm.refl _
  | x :: xs => (insI_perm x (Mi.sortI xs)).trans ((sortI_perm xs).cons x)
theorem insI_srt (x : Int) : ∀ ys : List Int, ys.Pairwise (· ≤ ·) → (Mi.insI x ys).Pairwise (· ≤ ·)
  | [], _ => by simp [Mi.insI]
  | y :: ys, h => by
    unfold Mi.insI
    split
    · rename_i hx
      refine List.pairwise_cons.mpr ⟨fun z hz => ?_, h⟩
      rcases List.mem_cons.mp hz with e | hz
      · omega
      · have := List.rel_of_pairwise_cons h hz
        omega
    · rename_i hx
      obtain ⟨h1, h2⟩ := List.pairwise_cons.mp h
      refine List.pairwise_cons.mpr ⟨fun z hz => ?_, insI_srt x ys h2⟩
      rcases List.mem_cons.mp ((insI_perm x ys).mem_iff.mp hz) with e | hz
      · omega
      · exact h1 z hz
theorem sortI_srt : ∀ xs : List Int, (Mi.sortI xs).Pairwise (· ≤ ·)
  | [] => List.Pairwise.nil
  | x :: xs => insI_srt x _ (sortI_srt xs)
theorem perm_srt : ∀ {xs ys : List Int}, xs.Perm ys → xs.Pairwise (· ≤ ·) → ys.Pairwise (· ≤ ·) → xs = ys := fun {xs ys} p h1 h2 =>
  List.Perm.eq_of_pairwise (le := (· ≤ ·)) (fun a b _ _ h3 h4 => by omega) h1 h2 p
theorem Reps.ints {K : PySem.W.Frag} {H : Hp} {m f : List Addr} : ∀ ns : List Int, Reps K H m f (ns.map .int) (ns.map V.int)
  | [] => .nil
  | n :: ns => .cons (.int n) (Reps.ints ns)
theorem call_len2 : CallR X (.builtin "len") (rvF X.K (Mi.blt .len)) := by
  intro pins s σ H vs us Q I r ⟨ws, cs, m, f, rs, c, h⟩
  unfold Mi.blt at h
  split at h
  all_goals (rename_i q; try cases q)
  · exact h.elim
  · obtain ⟨v, e, rv⟩ := one_rep rs
    subst e
    split at h
    · rename_i xs e
      obtain ⟨a, zs, f1, q1, p1⟩ := rep_items c rv.fz e
      subst f1
      refine call_len_seq pins s σ H _ us Q I r ⟨a, zs, rfl, q1, ?_⟩
      rw [← p1.length]
      exact h _ H m Keep.refl (.old (.int _) c)
    · exact h.elim
  all_goals exact h.elim
theorem call_abs2 : CallR X (.builtin "abs") (rvF X.K (Mi.blt .abs)) := by
  intro pins s σ H vs us Q I r ⟨ws, cs, m, f, rs, c, h⟩
  unfold Mi.blt at h
  split at h
  all_goals (rename_i q; try cases q)
  · obtain ⟨v, e, rv⟩ := one_rep rs
    subst e
    cases rv
    exact call_abs pins s σ H _ us Q I r ⟨_, rfl, h _ H m Keep.refl (.old (.int _) c)⟩
  all_goals exact h.elim
theorem call_int2 : CallR X (.type "int") (rvF X.K (Mi.blt .int)) := by
  intro pins s σ H vs us Q I r ⟨ws, cs, m, f, rs, c, h⟩
  unfold Mi.blt at h
  split at h
  all_goals (rename_i q; try cases q)
  · obtain ⟨v, e, rv⟩ := one_rep rs
    subst e
    cases rv
    exact call_int1 pins s σ H _ us Q I r (.inl ⟨_, rfl, h _ H m Keep.refl (.old (.int _) c)⟩)
  · obtain ⟨v, e, rv⟩ := one_rep rs
    subst e
    cases rv
    exact call_int1 pins s σ H _ us Q I r (.inr ⟨_, rfl, h _ H m Keep.refl (.old (.int _) c)⟩)
  all_goals exact h.elim
theorem itemsI {K : PySem.W.Frag} {H : Hp} {m f : List Addr} {cs : List Ob} {a : W} {v : V} {ns : List Int} (c : Cells K H m f cs) (rv : Rep K H m f a v) (e : (Mi.itemsL cs a).bind Mi.intsW = some ns) : ∃ p, v = .ref p ∧ H p = some (.lst (ns.map V.int)) := by
  cases e1 : Mi.itemsL cs a with
  | none =>
    rw [e1] at e
    cases e
  | some xs =>
    rw [e1] at e
    obtain ⟨p, zs, f1, q1, p1⟩ := rep_itemsL c rv.fz e1
    subst f1
    rw [intsW_of p1 e] at q1
    exact ⟨p, rfl, q1⟩
theorem call_max (hc : X.calm = true) : CallR X (.builtin "max") (fun vs H Q => rvF X.K (Mi.blt .max2) vs H Q ∨ rvF X.K (Mi.blt .max1) vs H Q) := by
  refine CallR.or (r := rvF X.K (Mi.blt .max2)) (r' := rvF X.K (Mi.blt .max1)) ?_ ?_
  · intro pins s σ H vs us Q I r ⟨ws, cs, m, f, rs, c, h⟩
    unfold Mi.blt at h
    split at h
    all_goals (rename_i q; try cases q)
    · rename_i i j
      cases rs with
      | cons r1 r2 =>
        obtain ⟨v, e, rv⟩ := one_rep r2
        subst e
        cases r1
        cases rv
        exact call_max2 hc pins s σ H _ us Q I r ⟨i, j, rfl, h _ H m Keep.refl (.old (.int _) c)⟩
    all_goals exact h.elim
  · intro pins s σ H vs us Q I r ⟨ws, cs, m, f, rs, c, h⟩
    unfold Mi.blt at h
    split at h
    all_goals (rename_i q; try cases q)
    · obtain ⟨v, e, rv⟩ := one_rep rs
      subst e
      split at h
      · rename_i x xs e
        obtain ⟨p, f1, q1⟩ := itemsI c rv e
        subst f1
        refine cr_max hc pins s σ H _ us Q I r ⟨p, x :: xs, rfl, SqL.of q1, Nat.succ_pos _, fun z z1 z2 => ?_⟩
        obtain ⟨g1, g2⟩ := maxI_mem xs x
        have e2 : z = Mi.maxI x xs := by
          have := g2 z z1
          have := z2 _ g1
          omega
        subst e2
        exact h _ H m Keep.refl (.old (.int _) c)
      · exact h.elim
    all_goals exact h.elim
theorem call_min (hc : X.calm = true) : CallR X (.builtin "min") (fun vs H Q => rvF X.K (Mi.blt .min2) vs H Q ∨ rvF X.K (Mi.blt .min1) vs H Q) := by
  refine CallR.or (r := rvF X.K (Mi.blt .min2)) (r' := rvF X.K (Mi.blt .min1)) ?_ ?_
  · intro pins s σ H vs us Q I r ⟨ws, cs, m, f, rs, c, h⟩
    unfold Mi.blt at h
    split at h
    all_goals (rename_i q; try cases q)
    · rename_i i j
      cases rs with
      | cons r1 r2 =>
        obtain ⟨v, e, rv⟩ := one_rep r2
        subst e
        cases r1
        cases rv
        exact call_min2 hc pins s σ H _ us Q I r ⟨i, j, rfl, h _ H m Keep.refl (.old (.int _) c)⟩
    all_goals exact h.elim
  · intro pins s σ H vs us Q I r ⟨ws, cs, m, f, rs, c, h⟩
    unfold Mi.blt at h
    split at h
    all_goals (rename_i q; try cases q)
    · obtain ⟨v, e, rv⟩ := one_rep rs
      subst e
      split at h
      · rename_i x xs e
        obtain ⟨p, f1, q1⟩ := itemsI c rv e
        subst f1
        refine cr_min hc pins s σ H _ us Q I r ⟨p, x :: xs, rfl, SqL.of q1, Nat.succ_pos _, fun z z1 z2 => ?_⟩
        obtain ⟨g1, g2⟩ := minI_mem xs x
        have e2 : z = Mi.minI x xs := by
          have := g2 z z1
          have := z2 _ g1
          omega
        subst e2
        exact h _ H m Keep.refl (.old (.int _) c)
      · exact h.elim
    all_goals exact h.elim
theorem call_sum2 (hc : X.calm = true) : CallR X (.builtin "sum") (rvF X.K (Mi.blt .sum)) := by
  intro pins s σ H vs us Q I r ⟨ws, cs, m, f, rs, c, h⟩
  unfold Mi.blt at h
  split at h
  all_goals (rename_i q; try cases q)
  · obtain ⟨v, e, rv⟩ := one_rep rs
    subst e
    split at h
    · rename_i xs e
      obtain ⟨p, f1, q1⟩ := itemsI c rv e
      subst f1
      exact cr_sum hc pins s σ H _ us Q I r ⟨p, xs, rfl, SqL.of q1, h _ H m Keep.refl (.old (.int _) c)⟩
    · exact h.elim
  all_goals exact h.elim
theorem itemsB {K : PySem.W.Frag} {H : Hp} {m f : List Addr} {cs : List Ob} {a : W} {v : V} {bs : List Bool} (c : Cells K H m f cs) (rv : Rep K H m f a v) (e : (Mi.itemsL cs a).bind Mi.blsW = some bs) : ∃ p, v = .ref p ∧ H p = some (.lst (bs.map V.bl)) := by
  cases e1 : Mi.itemsL cs a with
  | none =>
    rw [e1] at e
    cases e
  | some xs =>
    rw [e1] at e
    obtain ⟨p, zs, f1, q1, p1⟩ := rep_itemsL c rv.fz e1
    subst f1
    rw [bl_of p1 e] at q1
    exact ⟨p, rfl, q1⟩
theorem call_any2 (hc : X.calm = true) : CallR X (.builtin "any") (rvF X.K (Mi.blt .any)) := by
  intro pins s σ H vs us Q I r ⟨ws, cs, m, f, rs, c, h⟩
  unfold Mi.blt at h
  split at h
  all_goals (rename_i q; try cases q)
  · obtain ⟨v, e, rv⟩ := one_rep rs
    subst e
    split at h
    · rename_i xs e
      obtain ⟨p, f1, q1⟩ := itemsB c rv e
      subst f1
      exact cr_any hc pins s σ H _ us Q I r ⟨p, xs, rfl, SqL.of q1, h _ H m Keep.refl (.old (.bl _) c)⟩
    · exact h.elim
  all_goals exact h.elim
theorem call_all2 (hc : X.calm = true) : CallR X (.builtin "all") (rvF X.K (Mi.blt .all)) := by
  intro pins s σ H vs us Q I r ⟨ws, cs, m, f, rs, c, h⟩
  unfold Mi.blt at h
  split at h
  all_goals (rename_i q; try cases q)
  · obtain ⟨v, e, rv⟩ := one_rep rs
    subst e
    split at h
    · rename_i xs e
      obtain ⟨p, f1, q1⟩ := itemsB c rv e
      subst f1
      exact cr_all hc pins s σ H _ us Q I r ⟨p, xs, rfl, SqL.of q1, h _ H m Keep.refl (.old (.bl _) c)⟩
    · exact h.elim
  all_goals exact h.elim
/-- what sorted does with a tuple: its items are laid into a list first -/
theorem tup_collected {prog : Program} {w : World} {A : Around} {E : Value → Shared → Prop} {st : Shared} {t : Addr} {ys : List Value} {Q : List Value → Shared → Prop} (ht : IsTup st.heap t ys.toArray) (hz : ys.length ≤ sizeLine)
    (k : Q ys { st with heap := (st.heap.push (seqObj "list" #[] 0)).update st.heap.objs.size (Obj.mapSeq (· ++ ys.toArray)) }) : wpAny (model prog w) A (collect (.ref t)) Q E st := by
  obtain ⟨o, g1, g2, n, g3⟩ := ht
  have g1' : (st.heap.push (seqObj "list" #[] 0)).get? t = some o := Heap.get?_push_of_some _ g1
  unfold collect
  refine wpAny_bind (wpAny_runValue (codeAny_builtin PyProof.Rows.entry_proto_collect' ?_))
  show wpAny _ _ (do
    again (.builtin "list.__iadd__" ⟨[← newList [], .ref t], []⟩)) _ _ st
  refine wpAny_bind (wpAny_newList
    (wpAny_pure ⟨Code.quiet_builtin _ (by decide +kernel), codeAny_builtin PyProof.Rows.entry_list_iadd' ?_⟩))
  show wpAny _ _ (Builtin.List.listExtendWith (.ref st.heap.objs.size) (.ref t) (.ref st.heap.objs.size)) _ _
    { st with heap := st.heap.push (seqObj "list" #[] 0) }
  unfold Builtin.List.listExtendWith
  refine wpAny_bind (wpAny_typeOf (T := "tuple") ⟨o, g1', g2⟩ ?_)
  rw [if_pos (by simp)]
  refine wpAny_bind (listItems_at g1' g3 ?_)
  refine wpAny_bind (listItems_at (n := 0) (xs := #[]) (Heap.get?_push_size _ rfl) rfl ?_)
  rw [if_neg (by simp)]
  refine wpAny_bind (listUpdate_at (n := 0) (xs := #[]) (Heap.get?_push_size _ rfl) rfl ?_ (Nat.zero_le _)
    (by show (#[] ++ ys.toArray).size ≤ sizeLine + 1
        simp only [Array.size_append, List.size_toArray, List.length_nil]
        omega))
  refine wpAny_pure ?_
  refine wpAny_bind (wpAny_load (get?_update_seq (Heap.get?_push_size _ rfl) _) ?_)
  show wpAny _ _ (pure ((#[] : Array Value) ++ ys.toArray).toList) Q E _
  have e : ((#[] : Array Value) ++ ys.toArray).toList = ys := by simp
  rw [e]
  exact wpAny_pure k
theorem tup_sorted {prog : Program} {w : World} {A : Around} {E : Value → Shared → Prop} {st : Shared} {t : Addr} {ys : List Value} {ns : List Int} {Q : Value → Shared → Prop} (ht : IsTup st.heap t ys.toArray) (hi : IntsAre ys ns) (hz : ys.length ≤ sizeLine)
    (k : ∀ out : List Value, SrtO.Srtd SrtO.ltIv out → SrtO.Stb SrtO.ltIv out ys → Q (.ref (st.heap.objs.size + 1)) { st with heap := sortedAll st.heap ys out.toArray }) : wpAny (model prog w) A (call (.builtin "sorted") [.ref t]) Q E st := by
  refine Calls.call_function_entry PyProof.Rows.kind_sorted PyProof.Rows.plain_sorted PyProof.Rows.entry_sorted (PyProof.Rows.args_sorted1 _) ?_
  unfold Builtin.«sorted»
  refine wpAny_bind (m := checkCount "sorted" 1 1 _) (wpAny_pure ?_)
  refine wpAny_bind (tup_collected ht hz ?_)
  refine wpAny_bind (wpAny_newList ?_ hz)
  have z1 : ((st.heap.push (seqObj "list" #[] 0)).update st.heap.objs.size (Obj.mapSeq (· ++ ys.toArray))).objs.size = st.heap.objs.size + 1 := by
    rw [Heap.size_update, size_push'] <;> rfl
  have z2 := Heap.get?_push_size ((st.heap.push (seqObj "list" #[] 0)).update st.heap.objs.size (Obj.mapSeq (· ++ ys.toArray))) (o := seqObj "list" ys.toArray 0) rfl
  rw [z1] at z2
  show wpAny _ _ _ _ _ { st with heap := ((st.heap.push (seqObj "list" #[] 0)).update st.heap.objs.size (Obj.mapSeq (· ++ ys.toArray))).push (seqObj "list" ys.toArray 0) }
  rw [z1]
  refine wpAny_bind (wpAny_holding (wpAny_call_entry PyProof.Rows.slot_list_sort ⟨_, z2, rfl⟩ PyProof.Rows.entry_list_sort
    (SrtO.list_sort_ord SrtO.swo_int z2 hz (fun h2 => SrtO.ints_sortable hi h2) fun out h1 h2 => ⟨_, rfl, ?_⟩) (PyProof.Rows.args_list_sort _)))
  exact wpAny_pure ⟨_, rfl, k out h1 h2⟩
theorem cr_sortedTup : CallR X (.builtin "sorted") (fun vs H Q => ∃ (a : Addr) (ns : List Int), vs = [V.ref a] ∧ SqT X.K H a (ns.map V.int) ∧ ∀ p, H p = none → Q (.ref p) (upd H p (.lst ((Mi.sortI ns).map V.int)))) := by
  intro pins s σ H vs us Q I r ⟨a, ns, ev, hs, q⟩
  subst ev
  obtain ⟨its, rv, hl, hz⟩ := I.tuple hs
  obtain ⟨u, e, ru⟩ := vals1 r
  subst e
  cases ru
  have hi := rv.ints
  have hz' : its.length ≤ sizeLine := by
    rw [← rv.length]
    exact hz
  refine tup_sorted hl hi hz' fun out h1 h2 => ?_
  obtain ⟨k1, k2, k3⟩ := SrtO.ints_out hi h1 h2
  have e3 : out.map SrtO.iv = Mi.sortI ns := perm_srt (k2.trans (sortI_perm ns).symm) k3 (sortI_srt ns)
  rw [e3] at k1
  obtain ⟨ep, he⟩ := PyProof.Rows.sortedAll_at s.heap its out.toArray
  have hlen : ((Mi.sortI ns).map V.int).length ≤ sizeLine := by
    rw [List.length_map, (sortI_perm ns).length_eq]
    rw [List.length_map] at hz
    exact hz
  exact ⟨.ref (s.heap.objs.size + 1), upd H (s.heap.objs.size + 1) (.lst ((Mi.sortI ns).map V.int)),
    I.laid (t' := s.toks) (fun _ _ => PyProof.Rows.sortedAll_old) (Nat.le_succ _) ⟨hlen, out, ep, vals_of_ints k1, he⟩, rfl, q _ (I.hok.fresh (Nat.le_succ _))⟩
theorem call_sorted2 : CallR X (.builtin "sorted") (rvF X.K (Mi.blt .sorted)) := by
  intro pins s σ H vs us Q I r ⟨ws, cs, m, f, rs, c, h⟩
  unfold Mi.blt at h
  split at h
  all_goals (rename_i q; try cases q)
  · obtain ⟨v, e, rv⟩ := one_rep rs
    subst e
    rename_i a
    split at h
    · rename_i xs e
      cases e1 : Mi.items cs a with
      | none =>
        rw [e1] at e
        cases e
      | some zs =>
        rw [e1] at e
        obtain ⟨p, vs, f1, q1, p1⟩ := rep_items c rv.fz e1
        subst f1
        rw [intsW_of p1 e] at q1
        unfold Mi.mkNew at h
        split at h
        · rcases q1 with q1 | q1
          · refine cr_sortedI pins s σ H _ us Q I r ⟨p, xs, rfl, q1, fun ns' p' g1 g2 hp => ?_⟩
            have e2 : ns' = Mi.sortI xs := perm_srt (g1.trans (sortI_perm xs).symm) g2 (sortI_srt xs)
            subst e2
            exact h _ _ m (Keep.new hp) (out_new c hp (Reps.ints _))
          · exact cr_sortedTup pins s σ H _ us Q I r ⟨p, xs, rfl, q1, fun p' hp => h _ _ m (Keep.new hp) (out_new c hp (Reps.ints _))⟩
        · exact h.elim
    · exact h.elim
  all_goals exact h.elim
theorem call_list2 : CallR X (.type "list") (rvF X.K (Mi.blt .list)) := by
  intro pins s σ H vs us Q I r ⟨ws, cs, m, f, rs, c, h⟩
  unfold Mi.blt at h
  split at h
  all_goals (rename_i q; try cases q)
  · obtain ⟨v, e, rv⟩ := one_rep rs
    subst e
    split at h
    · rename_i xs e
      obtain ⟨a, zs, f1, q1, p1⟩ := rep_items c rv.fz e
      subst f1
      unfold Mi.mkNew at h
      split at h
      · exact call_list_of pins s σ H _ us Q I r ⟨a, zs, rfl, q1, fun l hl => h _ _ m (Keep.new hl) (out_new c hl p1)⟩
      · exact h.elim
    · exact h.elim
  all_goals exact h.elim
theorem call_tuple2 : CallR X (.type "tuple") (rvF X.K (Mi.blt .tuple)) := by
  intro pins s σ H vs us Q I r ⟨ws, cs, m, f, rs, c, h⟩
  unfold Mi.blt at h
  split at h
  all_goals (rename_i q; try cases q)
  · obtain ⟨v, e, rv⟩ := one_rep rs
    subst e
    rename_i a
    split at h
    · rename_i xs e
      unfold Mi.mkTup at h
      split at h
      · cases a with
        | tup ys =>
          cases e
          obtain ⟨p, zs, f1, q1, p1⟩ := SqT.ofRep rv
          subst f1
          exact call_tuple_of pins s σ H _ us Q I r ⟨p, zs, rfl, .inr ⟨q1, h _ H m Keep.refl (.old rv c)⟩⟩
        | scr ys =>
          cases e
          cases rv with
          | scr h1 _ _ h3 => exact call_tuple_of pins s σ H _ us Q I r ⟨_, _, rfl, .inl ⟨.inl h1, fun l hl => h _ _ m (Keep.new hl) (out_tup c hl h3)⟩⟩
          | kscr h1 h3 => exact call_tuple_of pins s σ H _ us Q I r ⟨_, _, rfl, .inl ⟨.inr h1, fun l hl => h _ _ m (Keep.new hl) (out_tup c hl h3)⟩⟩
        | lst ys =>
          obtain ⟨p, zs, f1, q1, p1⟩ := rep_itemsL (w := .lst ys) c rv.fz e
          subst f1
          exact call_tuple_of pins s σ H _ us Q I r ⟨p, zs, rfl, .inl ⟨SqL.of q1, fun l hl => h _ _ m (Keep.new hl) (out_tup c hl p1)⟩⟩
        | new ys =>
          obtain ⟨p, zs, f1, q1, p1⟩ := rep_itemsL (w := .new ys) c rv.fz e
          subst f1
          exact call_tuple_of pins s σ H _ us Q I r ⟨p, zs, rfl, .inl ⟨SqL.of q1, fun l hl => h _ _ m (Keep.new hl) (out_tup c hl p1)⟩⟩
        | ref n =>
          obtain ⟨p, zs, f1, q1, p1⟩ := rep_itemsL (w := .ref n) c rv.fz e
          subst f1
          exact call_tuple_of pins s σ H _ us Q I r ⟨p, zs, rfl, .inl ⟨SqL.of q1, fun l hl => h _ _ m (Keep.new hl) (out_tup c hl p1)⟩⟩
        | _ => cases e
      · exact h.elim
    · exact h.elim
  all_goals exact h.elim
/-! ### isinstance -/
def tyOf : Mi.Ty → String
  | .int => "int" | .bool => "bool" | .str => "str" | .list => "list" | .tuple => "tuple"
def rvIs (K : PySem.W.Frag) (t : Mi.Ty) : List V → Hp → VK → Prop := fun vs H Q => ∃ (w : W) (x : V) (cs : List Ob) (m f : List Addr) (k : Bool), vs = [x, .ty (tyOf t)] ∧ Rep K H m f (Mi.fz w) x ∧ Cells K H m f cs ∧ Mi.isiW t w cs = some k ∧ Q (.bl k) H
theorem call_isi2 (t : Mi.Ty) : CallR X (.builtin "isinstance") (rvIs X.K t) := by
  intro pins s σ H vs us Q I r ⟨w, x, cs, m, f, k, ev, rw', c, h, q⟩
  subst ev
  have go : ∀ (T : String) (b : Bool), TyX X.K H x (.type T) → kitB T (tyOf t) = some b → b = k → wpAny (model X.prog X.w) X.A (call (.builtin "isinstance") us) (EP X pins σ Q) X.xe s := fun T b h1 h2 h3 => by
    subst h3
    exact call_isi pins s σ H _ us Q I r ⟨x, .ty (tyOf t), .type T, .type (tyOf t), b, rfl, .ty _, h1, kit_ty h2, q⟩
  have lists : ∀ ys, Mi.itemsL cs w = some ys → TyX X.K H x (.type "list") := fun ys e => by
    obtain ⟨a, zs, f1, q1, _⟩ := rep_itemsL c rw' e
    subst f1
    exact .base (.lst q1)
  have tups : ∀ ys, w = .tup ys → TyX X.K H x (.type "tuple") := fun ys e => by
    subst e
    cases rw' with
    | tup h1 _ _ _ =>
      rcases h1 with h1 | ⟨o, h1⟩
      · exact .base (.tup h1)
      · exact .fTuple h1
    | ktup h1 _ =>
      obtain ⟨o, its, n, k1, k2, _⟩ := h1
      exact .kTuple k1 k2
  cases w with
  | non =>
    cases rw'
    cases t <;> cases h <;> exact go "NoneType" _ (.base .non) (by decide +kernel) rfl
  | bl b =>
    cases rw'
    cases t <;> cases h <;> exact go "bool" _ (.base (.bl _)) (by decide +kernel) rfl
  | int b =>
    cases rw'
    cases t <;> cases h <;> exact go "int" _ (.base (.int _)) (by decide +kernel) rfl
  | str b =>
    cases rw'
    cases t <;> cases h <;> exact go "str" _ (.base (.str _)) (by decide +kernel) rfl
  | tup ys => cases t <;> cases h <;> exact go "tuple" _ (tups ys rfl) (by decide +kernel) rfl
  | scr ys => cases t <;> cases h
  | lst ys => cases t <;> cases h <;> exact go "list" _ (lists ys rfl) (by decide +kernel) rfl
  | new ys => cases t <;> cases h <;> exact go "list" _ (lists ys rfl) (by decide +kernel) rfl
  | ref n =>
    cases e : Mi.cellL cs n with
    | none => cases t <;> simp [Mi.isiW, Mi.itemsL, e] at h
    | some ys => cases t <;> (simp [Mi.isiW, Mi.itemsL, e] at h; subst h) <;> exact go "list" _ (lists ys e) (by decide +kernel) rfl
end
end So
end S_Vals2

section S_Exps
set_option Elab.async false
set_option linter.all false
set_option maxRecDepth 100000
set_option maxHeartbeats 4000000
/-! Exps: expressions do what the evaluator says. -/
namespace So
open PySem PySem.Spec PyProof.Rows L2
open Mi (W Ob Xn R Orc)

/-- an answer, what is wanted of an exception, what is wanted of a value -/
def Rw {α : Type} (z : Xn → List Ob → Prop) (r : R α) (q : α → List Ob → Prop) : Prop :=
  match r with
  | .ok a cs => q a cs
  | .exn x cs => z x cs
  | .bad => False
theorem Rw.bind {α β : Type} {z : Xn → List Ob → Prop} {r : R α} {g : α → List Ob → R β} {q : β → List Ob → Prop} (h : Rw z (r.bind g) q) : Rw z r fun a cs => Rw z (g a cs) q := by
  cases r <;> exact h
theorem Rw.imp {α : Type} {z z' : Xn → List Ob → Prop} {r : R α} {q q' : α → List Ob → Prop} (h : Rw z r q) (hz : ∀ x cs, z x cs → z' x cs) (hq : ∀ a cs, q a cs → q' a cs) : Rw z' r q' := by
  cases r with
  | ok a cs => exact hq a cs h
  | exn x cs => exact hz x cs h
  | bad => exact h
theorem Rw.imp_bind {α β : Type} {z : Xn → List Ob → Prop} {r : R α} {g : α → List Ob → R β} {q : α → List Ob → Prop} {q2 : β → List Ob → Prop} (h : Rw z r q) (k : ∀ a cs, q a cs → Rw z (g a cs) q2) : Rw z (r.bind g) q2 := by
  cases r with
  | ok a cs => exact k a cs h
  | exn x cs => exact h
  | bad => exact h
theorem Rw.rq {α : Type} {z : Xn → List Ob → Prop} {r : R α} {q : α → List Ob → Prop} (h : Rw z r q) : Rq r q := by
  cases r with
  | ok a cs => exact h
  | exn x cs => trivial
  | bad => exact h
theorem Rw.ofO {α : Type} {z : Xn → List Ob → Prop} {o : Option α} {cs : List Ob} {q : α → List Ob → Prop} (h : Rw z (Mi.ofO o cs) q) : ∃ a, o = some a ∧ q a cs := by
  cases o with
  | none => exact h.elim
  | some a => exact ⟨a, rfl, h⟩

/-- an exception of the class at C with its own dict, its fields -/
def XRep (K : PySem.W.Frag) (CA : Nat → Addr) (H : Hp) (m f : List Addr) (x : Xn) (cls : Value) (d : Option Addr) : Prop :=
  cls = .ref (CA x.cls) ∧ ∃ dd vs, d = some dd ∧ H dd = some (.xd ((x.fs.map (·.1)).zip vs)) ∧ Reps K H m f (x.fs.map (·.2)) vs
/-- what is wanted of an exception, told by the evaluator -/
def Zs (K : PySem.W.Frag) (CA : Nat → Addr) (E : XK) (H : Hp) (m f : List Addr) (x : Xn) (cs : List Ob) : Prop :=
  ∀ cls d H' m', Keep H H' m m' → Cells K H' m' f cs → XRep K CA H' m' f x cls d → E cls d H'
/-- what is wanted of a value, told by the evaluator -/
def Ps (K : PySem.W.Frag) (H : Hp) (m f : List Addr) (Q : VK) (w : W) (cs : List Ob) : Prop :=
  ∀ v H' m', Keep H H' m m' → Out K H m f H' m' w cs v → Q v H'
section
variable {K : PySem.W.Frag} {CA : Nat → Addr} {E : XK} {H H1 : Hp} {m m1 f : List Addr} {Q : VK}
theorem Zs.mono (k : Keep H H1 m m1) {x : Xn} {cs : List Ob} (h : Zs K CA E H m f x cs) : Zs K CA E H1 m1 f x cs := fun cls d H' m' k' => h cls d H' m' (k.trans k')
theorem Ps.mono (k : Keep H H1 m m1) {w : W} {cs : List Ob} (h : Ps K H m f Q w cs) : Ps K H1 m1 f Q w cs := fun v H' m' k' o => h v H' m' (k.trans k') (o.back k)
end
/-- the reading of an expression: what the evaluator answers -/
def tE (O : Orc) (K : PySem.W.Frag) (CA : Nat → Addr) (Wx : WX) (e : Mi.Ex) : TE := fun σ H Q => ∃ (ρ : ME) (cs : List Ob) (m f : List Addr), EnvR K H m f ρ σ ∧ Cells K H m f cs ∧
  Rw (Zs K CA (fun cls d H => Wx cls d σ H) H m f) (Mi.ev O ρ e cs) (Ps K H m f Q)
/-- of a list of arguments -/
def tAs (O : Orc) (K : PySem.W.Frag) (CA : Nat → Addr) (Wx : WX) (es : Mi.Exs) : TA := fun σ H Q => ∃ (ρ : ME) (cs : List Ob) (m f : List Addr), EnvR K H m f ρ σ ∧ Cells K H m f cs ∧
  Rw (Zs K CA (fun cls d H => Wx cls d σ H) H m f) (Mi.evs O ρ es cs) (fun ws cs' => ∀ vs H' m', Keep H H' m m' → Reps K H' m' f ws vs → Cells K H' m' f cs' → Q vs H')
/-- of a test -/
def tTs (O : Orc) (K : PySem.W.Frag) (CA : Nat → Addr) (Wx : WX) (e : Mi.Ex) : TT := fun σ H Q => ∃ (ρ : ME) (cs : List Ob) (m f : List Addr), EnvR K H m f ρ σ ∧ Cells K H m f cs ∧
  Rw (Zs K CA (fun cls d H => Wx cls d σ H) H m f) (Mi.test O ρ e cs) (fun b cs' => ∀ H' m', Keep H H' m m' → Cells K H' m' f cs' → Q b H')
/-- of a slice's part -/
def tOs (O : Orc) (K : PySem.W.Frag) (CA : Nat → Addr) (Wx : WX) (e : Mi.OEx) : TO := fun σ H Q => ∃ (ρ : ME) (cs : List Ob) (m f : List Addr), EnvR K H m f ρ σ ∧ Cells K H m f cs ∧
  Rw (Zs K CA (fun cls d H => Wx cls d σ H) H m f) (Mi.evO O ρ e cs) (fun o cs' => ∀ H' m', Keep H H' m m' → Cells K H' m' f cs' → Q o H')

theorem peImp {X : Cx} {e : Expr} {t t' : TE} (h : PE X e t) (i : ∀ σ H Q, t' σ H Q → t σ H Q) : PE X e t' := ⟨fun pins s σ H Q I hw => h.run pins s σ H Q I (i σ H Q hw)⟩
theorem ptImp {X : Cx} {e : Expr} {t t' : TT} (h : PT X e t) (i : ∀ σ H Q, t' σ H Q → t σ H Q) : PT X e t' := ⟨fun pins s σ H Q I hw => h.run pins s σ H Q I (i σ H Q hw)⟩
theorem pwImp {X : Cx} {e : Expr} {t t' : TT} (h : PW X e t) (i : ∀ σ H Q, t' σ H Q → t σ H Q) : PW X e t' := ⟨fun whole pins s σ H Q I hw => h.run whole pins s σ H Q I (i σ H Q hw)⟩
theorem paImp {X : Cx} {e : List Expr} {t t' : TA} (h : PA X e t) (i : ∀ σ H Q, t' σ H Q → t σ H Q) : PA X e t' := ⟨fun pos pins s σ H Q I hw => h.run pos pins s σ H Q I (i σ H Q hw)⟩
theorem poImp {X : Cx} {e : Option Expr} {t t' : TO} (h : PO X e t) (i : ∀ σ H Q, t' σ H Q → t σ H Q) : PO X e t' := ⟨fun pins s σ H Q I hw => h.run pins s σ H Q I (i σ H Q hw)⟩

section
variable {O : Orc} {K : PySem.W.Frag} {CA : Nat → Addr} {Wx : WX} {σ : LS} {H : Hp} {ρ : ME} {cs : List Ob} {m f : List Addr}
/-- an expression first, then what the evaluator does with its value -/
theorem tE_then {β : Type} {e : Mi.Ex} {g : W → List Ob → R β} {q : β → List Ob → Prop} {Q : VK} (env : EnvR K H m f ρ σ) (c : Cells K H m f cs) (h : Rw (Zs K CA (fun cls d H => Wx cls d σ H) H m f) ((Mi.ev O ρ e cs).bind g) q)
    (k : ∀ w cs1 v H1 m1, Keep H H1 m m1 → Out K H m f H1 m1 w cs1 v → EnvR K H1 m1 f ρ σ → Rw (Zs K CA (fun cls d H => Wx cls d σ H) H1 m1 f) (g w cs1) q → Q v H1) : tE O K CA Wx e σ H Q :=
  ⟨ρ, cs, m, f, env, c, h.bind.imp (fun _ _ z => z) fun w cs1 h1 v H1 m1 k1 o => k w cs1 v H1 m1 k1 o (env.mono k1) (h1.imp (fun _ _ z => z.mono k1) fun _ _ z => z)⟩
theorem tAs_then {β : Type} {es : Mi.Exs} {g : List W → List Ob → R β} {q : β → List Ob → Prop} {Q : List V → Hp → Prop} (env : EnvR K H m f ρ σ) (c : Cells K H m f cs) (h : Rw (Zs K CA (fun cls d H => Wx cls d σ H) H m f) ((Mi.evs O ρ es cs).bind g) q)
    (k : ∀ ws cs1 vs H1 m1, Keep H H1 m m1 → Reps K H1 m1 f ws vs → Cells K H1 m1 f cs1 → EnvR K H1 m1 f ρ σ → Rw (Zs K CA (fun cls d H => Wx cls d σ H) H1 m1 f) (g ws cs1) q → Q vs H1) : tAs O K CA Wx es σ H Q :=
  ⟨ρ, cs, m, f, env, c, h.bind.imp (fun _ _ z => z) fun w cs1 h1 v H1 m1 k1 o c1 => k w cs1 v H1 m1 k1 o c1 (env.mono k1) (h1.imp (fun _ _ z => z.mono k1) fun _ _ z => z)⟩
theorem tOs_then {β : Type} {e : Mi.OEx} {g : Option Int → List Ob → R β} {q : β → List Ob → Prop} {Q : Option Int → Hp → Prop} (env : EnvR K H m f ρ σ) (c : Cells K H m f cs) (h : Rw (Zs K CA (fun cls d H => Wx cls d σ H) H m f) ((Mi.evO O ρ e cs).bind g) q)
    (k : ∀ w cs1 H1 m1, Keep H H1 m m1 → Cells K H1 m1 f cs1 → EnvR K H1 m1 f ρ σ → Rw (Zs K CA (fun cls d H => Wx cls d σ H) H1 m1 f) (g w cs1) q → Q w H1) : tOs O K CA Wx e σ H Q :=
  ⟨ρ, cs, m, f, env, c, h.bind.imp (fun _ _ z => z) fun w cs1 h1 H1 m1 k1 c1 => k w cs1 H1 m1 k1 c1 (env.mono k1) (h1.imp (fun _ _ z => z.mono k1) fun _ _ z => z)⟩
theorem tTs_then {β : Type} {e : Mi.Ex} {g : W → List Ob → R β} {q : β → List Ob → Prop} {Q : Bool → Hp → Prop} (env : EnvR K H m f ρ σ) (c : Cells K H m f cs) (h : Rw (Zs K CA (fun cls d H => Wx cls d σ H) H m f) ((Mi.ev O ρ e cs).bind g) q)
    (ht : ∀ w cs1, Rw (Zs K CA (fun cls d H => Wx cls d σ H) H m f) (g w cs1) q → ∃ b, Mi.truth cs1 w = some b)
    (k : ∀ w cs1 b H1 m1, Keep H H1 m m1 → Cells K H1 m1 f cs1 → EnvR K H1 m1 f ρ σ → Mi.truth cs1 w = some b → Rw (Zs K CA (fun cls d H => Wx cls d σ H) H1 m1 f) (g w cs1) q → Q b H1) : tTs O K CA Wx e σ H Q := by
  refine ⟨ρ, cs, m, f, env, c, ?_⟩
  unfold Mi.test
  have hb := h.bind
  cases e1 : Mi.ev O ρ e cs with
  | bad =>
    rw [e1] at hb
    exact hb
  | exn x c1 =>
    rw [e1] at hb
    exact hb
  | ok w cs1 =>
    rw [e1] at hb
    have hb' : Rw (Zs K CA (fun cls d H => Wx cls d σ H) H m f) (g w cs1) q := hb
    obtain ⟨b, eb⟩ := ht w cs1 hb'
    show Rw _ (Mi.ofO (Mi.truth cs1 w) cs1) _
    rw [eb]
    intro H1 m1 k1 c1
    exact k w cs1 b H1 m1 k1 c1 (env.mono k1) eb (hb'.imp (fun _ _ z => z.mono k1) fun _ _ z => z)
end

section
variable {X : Cx} {O : Orc} {CA : Nat → Addr} {Wx : WX} {a b c e : Expr} {ea eb ec : Mi.Ex} {pos : Pos}
theorem te_var {i : Nat} {x : Str} (hN : X.N[i]? = some x) (hv : Vis X.env.scope x) (hd : (x == ("__debug__" : Str)) = false) (hcd : (x == ("__classdict__" : Str)) = false) : PE X (.Name x pos) (tE O X.K CA Wx (.var i)) :=
  peImp (pe_var hN hv hd hcd) fun σ H Q ⟨ρ, cs, m, f, env, c, h⟩ => by
    unfold Mi.ev at h
    cases e : ρ[i]? with
    | none =>
      rw [e] at h
      exact h.elim
    | some o =>
      cases o with
      | none =>
        rw [e] at h
        exact h.elim
      | some w =>
        rw [e] at h
        obtain ⟨v, h1, h2⟩ := env.2 i w e
        exact ⟨v, h1, h v H m Keep.refl (.old h2 c)⟩
theorem te_non {j p} : PE X (.Constant .none j p) (tE O X.K CA Wx .non) :=
  peImp pe_non fun _ H _ ⟨_, _, m, _, _, c, h⟩ => h _ H m Keep.refl (.old .non c)
theorem te_bl {b j p} : PE X (.Constant (.bool b) j p) (tE O X.K CA Wx (.bl b)) :=
  peImp pe_bl fun _ H _ ⟨_, _, m, _, _, c, h⟩ => h _ H m Keep.refl (.old (.bl b) c)
theorem te_int {i j p} : PE X (.Constant (.int i) j p) (tE O X.K CA Wx (.int i)) :=
  peImp pe_int fun _ H _ ⟨_, _, m, _, _, c, h⟩ => h _ H m Keep.refl (.old (.int i) c)
theorem te_str {x j p} : PE X (.Constant (.str x) j p) (tE O X.K CA Wx (.str x)) :=
  peImp pe_str fun _ H _ ⟨_, _, m, _, _, c, h⟩ => h _ H m Keep.refl (.old (.str x) c)
/-- a constant of the module -/
theorem te_glob {x : Str} {w : W} {v : V} {u : Value} (hg : Gl X x) (hm : X.mg x = some u) (r : RelV v u) (hd : (x == ("__debug__" : Str)) = false) (hw : O.glob x = some w) (hr : ∀ H m f, Rep X.K H m f w v) : PE X (.Name x pos) (tE O X.K CA Wx (.glob x)) :=
  peImp (pe_glob hg hm r hd) fun _ H _ ⟨_, cs, m, f, _, c, h⟩ => by
    unfold Mi.ev at h
    rw [hw] at h
    exact h v H m Keep.refl (.old (hr H m f) c)
theorem te_bin {op : Mi.Bop} (ha : PE X a (tE O X.K CA Wx ea)) (hb : PE X b (tE O X.K CA Wx eb)) : PE X (.BinOp a (bopOf op) b pos) (tE O X.K CA Wx (.bin op ea eb)) :=
  peImp (pe_op (op_bop op) ha hb) fun σ H Q ⟨ρ, cs, m, f, env, c, h⟩ => by
    unfold Mi.ev at h
    refine tE_then env c h fun w cs1 v H1 m1 k1 o1 env1 h1 => ?_
    refine tE_then env1 o1.cells h1 fun w2 cs2 v2 H2 m2 k2 o2 env2 h2 => ?_
    exact ⟨w, w2, cs2, m2, f, o1.rep.mono k2, o2.rep, o2.cells, (h2.imp (z' := fun _ _ => True) (fun _ _ _ => trivial) fun _ _ z => z.mono (k1.trans k2)).rq⟩
theorem te_neg (ha : PE X a (tE O X.K CA Wx ea)) : PE X (.UnaryOp .USub a pos) (tE O X.K CA Wx (.neg ea)) :=
  peImp (pe_un un_neg ha) fun σ H Q ⟨ρ, cs, m, f, env, c, h⟩ => by
    unfold Mi.ev at h
    refine tE_then env c h fun w cs1 v H1 m1 k1 o1 env1 h1 => ?_
    cases w <;> first | exact h1.elim | skip
    cases o1 with
    | old r c1 =>
      cases r
      exact ⟨_, rfl, h1 _ H1 m1 k1 (.old (.int _) c1)⟩
theorem te_cmp {op : Mi.Cop} (hu : X.A.units + 64 < cLine) (ha : PE X a (tE O X.K CA Wx ea)) (hb : PE X b (tE O X.K CA Wx eb)) (hm : behindInMarks (copOf op) b = false) : PE X (.Compare a [copOf op] [b] pos) (tE O X.K CA Wx (.cmp op ea eb)) :=
  peImp (pe_cmpR (op_cop hu op) ha hb hm) fun σ H Q ⟨ρ, cs, m, f, env, c, h⟩ => by
    unfold Mi.ev at h
    refine tE_then env c h fun w cs1 v H1 m1 k1 o1 env1 h1 => ?_
    refine tE_then env1 o1.cells h1 fun w2 cs2 v2 H2 m2 k2 o2 env2 h2 => ?_
    cases e : Mi.cop op w w2 cs2 with
    | none =>
      rw [e] at h2
      exact h2.elim
    | some k =>
      rw [e] at h2
      exact ⟨w, w2, cs2, m2, f, k, o1.rep.mono k2, o2.rep, o2.cells, e, h2 _ H2 m2 (k1.trans k2) (.old (.bl k) o2.cells)⟩
theorem tt_cmp {op : Mi.Cop} (hu : X.A.units + 64 < cLine) (ha : PE X a (tE O X.K CA Wx ea)) (hb : PE X b (tE O X.K CA Wx eb)) (hm : behindInMarks (copOf op) b = false) : PT X (.Compare a [copOf op] [b] pos) (tTs O X.K CA Wx (.cmp op ea eb)) :=
  ptImp (pt_cmpR (op_cop hu op) ha hb hm) fun σ H Q ⟨ρ, cs, m, f, env, c, h⟩ => by
    unfold Mi.test at h
    unfold Mi.ev at h
    have h' := h.bind
    refine tE_then env c h' fun w cs1 v H1 m1 k1 o1 env1 h1 => ?_
    refine tE_then env1 o1.cells h1 fun w2 cs2 v2 H2 m2 k2 o2 env2 h2 => ?_
    cases e : Mi.cop op w w2 cs2 with
    | none =>
      rw [e] at h2
      exact h2.elim
    | some k =>
      rw [e] at h2
      exact ⟨w, w2, cs2, m2, f, k, o1.rep.mono k2, o2.rep, o2.cells, e, k, rfl, h2 H2 m2 (k1.trans k2) o2.cells⟩
theorem chain_ok {op op' : Mi.Cop} {σ : LS} {H : Hp} {Q : VK} (h : tE O X.K CA Wx (.chain op op' ea eb ec) σ H Q) : tChain (rvC X.K (Mi.cop op)) (rvC X.K (Mi.cop op')) (tE O X.K CA Wx ea) (tE O X.K CA Wx eb) (tE O X.K CA Wx ec) σ H Q := by
  obtain ⟨ρ, cs, m, f, env, c, h⟩ := h
  unfold Mi.ev at h
  refine tE_then env c h fun w cs1 v H1 m1 k1 o1 env1 h1 => ?_
  refine tE_then env1 o1.cells h1 fun w2 cs2 v2 H2 m2 k2 o2 env2 h2 => ?_
  cases e : Mi.cop op w w2 cs2 with
  | none =>
    rw [e] at h2
    exact h2.elim
  | some k =>
    rw [e] at h2
    refine ⟨w, w2, cs2, m2, f, k, o1.rep.mono k2, o2.rep, o2.cells, e, k, rfl, ?_⟩
    cases k with
    | false => exact iteF (h2 _ H2 m2 (k1.trans k2) (.old (.bl false) o2.cells))
    | true =>
      refine iteT (tE_then env2 o2.cells h2 fun w3 cs3 v3 H3 m3 k3 o3 env3 h3 => ?_)
      cases e3 : Mi.cop op' w2 w3 cs3 with
      | none =>
        rw [e3] at h3
        exact h3.elim
      | some k' =>
        rw [e3] at h3
        exact ⟨w2, w3, cs3, m3, f, k', o2.rep.mono k3, o3.rep, o3.cells, e3, h3 _ H3 m3 ((k1.trans k2).trans k3) (.old (.bl k') o3.cells)⟩
theorem te_chain {op op' : Mi.Cop} (hu : X.A.units + 64 < cLine) (ha : PE X a (tE O X.K CA Wx ea)) (hb : PE X b (tE O X.K CA Wx eb)) (hc : PE X c (tE O X.K CA Wx ec)) (hm : lastMarks [copOf op, copOf op'] [b, c] = false) :
    PE X (.Compare a [copOf op, copOf op'] [b, c] pos) (tE O X.K CA Wx (.chain op op' ea eb ec)) := peImp (pe_chain (op_cop hu op) (op_cop hu op') ha hb hc hm) fun _ _ _ h => chain_ok h
/-- a test that is a value's truth: a bool -/
theorem test_val {σ : LS} {H : Hp} {Q : Bool → Hp → Prop} (h : tTs O X.K CA Wx ea σ H Q) : tB (tE O X.K CA Wx ea) σ H Q := by
  obtain ⟨ρ, cs, m, f, env, c, h⟩ := h
  unfold Mi.test at h
  refine tE_then env c h fun w cs1 v H1 m1 k1 o1 env1 h1 => ?_
  obtain ⟨b, e, hb⟩ := h1.ofO
  cases w <;> first | (cases e; done) | skip
  cases e
  cases o1 with
  | old r c1 =>
    cases r
    exact ⟨_, rfl, hb H1 m1 k1 c1⟩
theorem tt_chain {op op' : Mi.Cop} (hu : X.A.units + 64 < cLine) (ha : PE X a (tE O X.K CA Wx ea)) (hb : PE X b (tE O X.K CA Wx eb)) (hc : PE X c (tE O X.K CA Wx ec)) (hm : lastMarks [copOf op, copOf op'] [b, c] = false) :
    PT X (.Compare a [copOf op, copOf op'] [b, c] pos) (tTs O X.K CA Wx (.chain op op' ea eb ec)) := ptImp (pt_chain (op_cop hu op) (op_cop hu op') ha hb hc hm) fun _ _ _ h => chain_ok (test_val h)
theorem tt_val (ha : PE X a (tE O X.K CA Wx ea)) (he : ∀ whole, isTrue a X.env whole = (do let v ← whole; standAt a.pos; holding [v] (truthy v))) : PT X a (tTs O X.K CA Wx ea) := ptImp (pt_val ha he) fun _ _ _ h => test_val h
theorem tt_not (ha : PT X a (tTs O X.K CA Wx ea)) : PT X (.UnaryOp .Not a pos) (tTs O X.K CA Wx (.not ea)) :=
  ptImp (pt_not ha) fun σ H Q ⟨ρ, cs, m, f, env, c, h⟩ => by
    unfold Mi.test at h
    unfold Mi.ev at h
    refine tTs_then env c h.bind (fun w cs1 h1 => ?_) fun w cs1 b H1 m1 k1 c1 env1 e h1 => ?_
    · cases e : Mi.truth cs1 w with
      | none =>
        rw [e] at h1
        exact h1.elim
      | some b => exact ⟨b, rfl⟩
    · rw [e] at h1
      exact h1 H1 m1 k1 c1
theorem te_not (ha : PE X a (tE O X.K CA Wx ea)) : PE X (.UnaryOp .Not a pos) (tE O X.K CA Wx (.not ea)) :=
  peImp (pe_not ha) fun σ H Q ⟨ρ, cs, m, f, env, c, h⟩ => by
    unfold Mi.ev at h
    refine tE_then env c h fun w cs1 v H1 m1 k1 o1 env1 h1 => ?_
    cases w <;> first | exact h1.elim | skip
    cases o1 with
    | old r c1 =>
      cases r
      exact ⟨_, rfl, h1 _ H1 m1 k1 (.old (.bl _) c1)⟩
end
end So
end S_Exps

section S_Exps2
set_option Elab.async false
set_option linter.all false
set_option maxRecDepth 100000
set_option maxHeartbeats 4000000
/-! Exps2: and, or, displays, places, calls. -/
namespace So
open PySem PySem.Spec PyProof.Rows L2
open Mi (W Ob Xn R Orc)
section
variable {X : Cx} {O : Orc} {CA : Nat → Addr} {Wx : WX} {a b c e : Expr} {es rest : List Expr} {ea eb ec : Mi.Ex} {as : Mi.Exs} {pos : Pos}
theorem te_and (ha : PE X a (tE O X.K CA Wx ea)) (hb : PE X (.BoolOp .And (b :: rest) pos) (tE O X.K CA Wx eb)) : PE X (.BoolOp .And (a :: b :: rest) pos) (tE O X.K CA Wx (.and ea eb)) :=
  peImp (pe_and ha hb) fun σ H Q ⟨ρ, cs, m, f, env, c, h⟩ => by
    unfold Mi.ev at h
    refine tE_then env c h fun w cs1 v H1 m1 k1 o1 env1 h1 => ?_
    cases w <;> first | exact h1.elim | skip
    rename_i k
    cases o1 with
    | old r c1 =>
      cases r
      cases k with
      | true => exact ⟨true, rfl, iteT ⟨ρ, cs1, m1, f, env1, c1, h1.imp (fun _ _ z => z) fun _ _ z => z.mono k1⟩⟩
      | false => exact ⟨false, rfl, iteF (h1 _ H1 m1 k1 (.old (.bl false) c1))⟩
theorem te_or (ha : PE X a (tE O X.K CA Wx ea)) (hb : PE X (.BoolOp .Or (b :: rest) pos) (tE O X.K CA Wx eb)) : PE X (.BoolOp .Or (a :: b :: rest) pos) (tE O X.K CA Wx (.or ea eb)) :=
  peImp (pe_or ha hb) fun σ H Q ⟨ρ, cs, m, f, env, c, h⟩ => by
    unfold Mi.ev at h
    refine tE_then env c h fun w cs1 v H1 m1 k1 o1 env1 h1 => ?_
    cases w <;> first | exact h1.elim | skip
    rename_i k
    cases o1 with
    | old r c1 =>
      cases r
      cases k with
      | false => exact ⟨false, rfl, iteF ⟨ρ, cs1, m1, f, env1, c1, h1.imp (fun _ _ z => z) fun _ _ z => z.mono k1⟩⟩
      | true => exact ⟨true, rfl, iteT (h1 _ H1 m1 k1 (.old (.bl true) c1))⟩
theorem tw_and (ha : PT X a (tTs O X.K CA Wx ea)) (hb : PW X (.BoolOp .And (b :: rest) pos) (tTs O X.K CA Wx eb)) : PW X (.BoolOp .And (a :: b :: rest) pos) (tTs O X.K CA Wx (.and ea eb)) :=
  pwImp (pw_and ha hb) fun σ H Q ⟨ρ, cs, m, f, env, c, h⟩ => by
    unfold Mi.test at h
    unfold Mi.ev at h
    refine tTs_then env c h.bind (fun w cs1 h1 => ?_) fun w cs1 k H1 m1 k1 c1 env1 e h1 => ?_
    · cases w <;> first | exact h1.elim | exact ⟨_, rfl⟩
    · cases w <;> first | (cases e; done) | skip
      cases e
      cases k with
      | true => exact iteT ⟨ρ, cs1, m1, f, env1, c1, by unfold Mi.test; exact (show Rw _ (Mi.ev O ρ eb cs1) _ from h1).imp_bind fun w2 cs2 z => z.imp (fun _ _ z => z.mono k1) fun b2 cs3 z H2 m2 k2 c2 => z H2 m2 (k1.trans k2) c2⟩
      | false => exact iteF (h1 H1 m1 k1 c1)
theorem tw_or (ha : PT X a (tTs O X.K CA Wx ea)) (hb : PW X (.BoolOp .Or (b :: rest) pos) (tTs O X.K CA Wx eb)) : PW X (.BoolOp .Or (a :: b :: rest) pos) (tTs O X.K CA Wx (.or ea eb)) :=
  pwImp (pw_or ha hb) fun σ H Q ⟨ρ, cs, m, f, env, c, h⟩ => by
    unfold Mi.test at h
    unfold Mi.ev at h
    refine tTs_then env c h.bind (fun w cs1 h1 => ?_) fun w cs1 k H1 m1 k1 c1 env1 e h1 => ?_
    · cases w <;> first | exact h1.elim | exact ⟨_, rfl⟩
    · cases w <;> first | (cases e; done) | skip
      cases e
      cases k with
      | false => exact iteF ⟨ρ, cs1, m1, f, env1, c1, by unfold Mi.test; exact (show Rw _ (Mi.ev O ρ eb cs1) _ from h1).imp_bind fun w2 cs2 z => z.imp (fun _ _ z => z.mono k1) fun b2 cs3 z H2 m2 k2 c2 => z H2 m2 (k1.trans k2) c2⟩
      | true => exact iteT (h1 H1 m1 k1 c1)
theorem te_ifx (hc : PT X c (tTs O X.K CA Wx ec)) (ha : PE X a (tE O X.K CA Wx ea)) (hb : PE X b (tE O X.K CA Wx eb)) : PE X (.IfExp c a b pos) (tE O X.K CA Wx (.ifx ec ea eb)) :=
  peImp (pe_ifExp hc ha hb) fun σ H Q ⟨ρ, cs, m, f, env, c, h⟩ => by
    unfold Mi.ev at h
    refine tTs_then env c h (fun w cs1 h1 => ?_) fun w cs1 k H1 m1 k1 c1 env1 e h1 => ?_
    · cases e : Mi.truth cs1 w with
      | none =>
        rw [e] at h1
        exact h1.elim
      | some b => exact ⟨b, rfl⟩
    · rw [e] at h1
      cases k with
      | true => exact iteT ⟨ρ, cs1, m1, f, env1, c1, h1.imp (fun _ _ z => z) fun _ _ z => z.mono k1⟩
      | false => exact iteF ⟨ρ, cs1, m1, f, env1, c1, h1.imp (fun _ _ z => z) fun _ _ z => z.mono k1⟩
/-! ### arguments, displays -/
theorem ta_nil : PA X [] (tAs O X.K CA Wx .nil) := paImp pa_nil fun σ H Q ⟨ρ, cs, m, f, env, c, h⟩ => by
  unfold Mi.evs at h
  exact h _ H m Keep.refl .nil c
theorem ta_cons (ha : PE X e (tE O X.K CA Wx ea)) (hr : PA X es (tAs O X.K CA Wx as)) (hs : starEach (e :: es) X.env = (false, eval e X.env) :: starEach es X.env) : PA X (e :: es) (tAs O X.K CA Wx (.cons ea as)) :=
  paImp (pa_cons ha hr hs) fun σ H Q ⟨ρ, cs, m, f, env, c, h⟩ => by
    unfold Mi.evs at h
    refine tE_then env c h fun w cs1 v H1 m1 k1 o1 env1 h1 => ?_
    refine tAs_then env1 o1.cells h1 fun ws cs2 vs H2 m2 k2 r2 c2 env2 h2 => ?_
    exact h2 (v :: vs) H2 m2 (k1.trans k2) (.cons (o1.rep.mono k2) r2) c2
theorem te_tuple {x1} (h : PA X es (tAs O X.K CA Wx as)) : PE X (.Tuple es x1 pos) (tE O X.K CA Wx (.tuple as)) :=
  peImp (pe_tup h) fun σ H Q ⟨ρ, cs, m, f, env, c, h⟩ => by
    unfold Mi.ev at h
    refine tAs_then env c h fun ws cs2 vs H2 m2 k2 r2 c2 env2 h2 => ?_
    unfold Mi.mkTup at h2
    split at h2
    · rename_i hz
      refine ⟨by rw [← r2.length]; exact sl_le hz, fun p hp => h2 _ _ m2 (k2.trans (Keep.new hp)) ?_⟩
      exact (out_tup c2 hp r2).back k2
    · exact h2.elim
theorem te_list (h : PA X es (tAs O X.K CA Wx as)) : PE X (.List es pos) (tE O X.K CA Wx (.list as)) :=
  peImp (pe_lst h) fun σ H Q ⟨ρ, cs, m, f, env, c, h⟩ => by
    unfold Mi.ev at h
    refine tAs_then env c h fun ws cs2 vs H2 m2 k2 r2 c2 env2 h2 => ?_
    unfold Mi.mkNew at h2
    split at h2
    · rename_i hz
      refine ⟨by rw [← r2.length]; exact sl_le hz, fun p hp => h2 _ _ m2 (k2.trans (Keep.new hp)) ?_⟩
      exact (out_new c2 hp r2).back k2
    · exact h2.elim
/-! ### places -/
theorem te_sub (ha : PE X a (tE O X.K CA Wx ea)) (hb : PE X b (tE O X.K CA Wx eb)) (hs : PlainIx b) : PE X (.Subscript a b pos) (tE O X.K CA Wx (.sub ea eb)) :=
  peImp (pe_ix ix_sub ha hb hs) fun σ H Q ⟨ρ, cs, m, f, env, c, h⟩ => by
    unfold Mi.ev at h
    refine tE_then env c h fun w cs1 v H1 m1 k1 o1 env1 h1 => ?_
    refine tE_then env1 o1.cells h1 fun w2 cs2 v2 H2 m2 k2 o2 env2 h2 => ?_
    obtain ⟨z, e, q⟩ := h2.ofO
    exact ⟨w, w2, z, cs2, m2, f, o1.rep.mono k2, o2.rep, o2.cells, e, fun u r => q u H2 m2 (k1.trans k2) (.old r o2.cells)⟩
theorem to_none : PO X none (tOs O X.K CA Wx .none) := poImp po_none fun σ H Q ⟨ρ, cs, m, f, env, c, h⟩ => by
  unfold Mi.evO at h
  exact h H m Keep.refl c
theorem to_some (ha : PE X a (tE O X.K CA Wx ea)) : PO X (some a) (tOs O X.K CA Wx (.some ea)) := poImp (po_some ha) fun σ H Q ⟨ρ, cs, m, f, env, c, h⟩ => by
  unfold Mi.evO at h
  refine tE_then env c h fun w cs1 v H1 m1 k1 o1 env1 h1 => ?_
  cases w <;> first | exact h1.elim | skip
  cases o1 with
  | old r c1 =>
    cases r
    exact ⟨_, rfl, h1 H1 m1 k1 c1⟩
theorem te_slice {lo hi : Option Expr} {el eh : Mi.OEx} {p2 : Pos} (ha : PE X a (tE O X.K CA Wx ea)) (hl : PO X lo (tOs O X.K CA Wx el)) (hh : PO X hi (tOs O X.K CA Wx eh)) : PE X (.Subscript a (.Slice lo hi none p2) pos) (tE O X.K CA Wx (.slice ea el eh)) :=
  peImp (pe_slice sl_slice ha hl hh) fun σ H Q ⟨ρ, cs, m, f, env, c, h⟩ => by
    unfold Mi.ev at h
    refine tE_then env c h fun w cs1 v H1 m1 k1 o1 env1 h1 => ?_
    refine tOs_then env1 o1.cells h1 fun l cs2 H2 m2 k2 c2 env2 h2 => ?_
    refine tOs_then env2 c2 h2 fun u cs3 H3 m3 k3 c3 env3 h3 => ?_
    exact ⟨w, cs3, m3, f, (o1.rep.mono k2).mono k3, c3, (h3.imp (z' := fun _ _ => True) (fun _ _ _ => trivial) fun _ _ z => z.mono ((k1.trans k2).trans k3)).rq⟩
/-! ### built-in functions by their values -/
theorem blt_ok {t : Mi.Blt} {σ : LS} {H : Hp} {Q : VK} (h : tE O X.K CA Wx (.blt t as) σ H Q) : tCB (rvF X.K (Mi.blt t)) (tAs O X.K CA Wx as) σ H Q := by
  obtain ⟨ρ, cs, m, f, env, c, h⟩ := h
  unfold Mi.ev at h
  refine tAs_then env c h fun ws cs2 vs H2 m2 k2 r2 c2 env2 h2 => ?_
  exact ⟨ws, cs2, m2, f, r2, c2, (h2.imp (z' := fun _ _ => True) (fun _ _ _ => trivial) fun _ _ z => z.mono k2).rq⟩
theorem te_bltB {t : Mi.Blt} {x : Str} {id : String} {p : Pos} {r : List V → Hp → VK → Prop} (hc : CallR X (.builtin id) r) (hr : ∀ vs H Q, rvF X.K (Mi.blt t) vs H Q → r vs H Q) (hg : Gl X x) (hm : X.mg x = none) (hv : bootBuiltins x = some (.builtin id)) (ha : PA X (e :: es) (tAs O X.K CA Wx as)) (hn : x ≠ "__name__") (hdb : (x == ("__debug__" : Str)) = false)
    (he : starEach (e :: es) X.env = (false, eval e X.env) :: starEach es X.env) (hpl : (backTo pos (starEach es X.env)).any (·.1) = false) : PE X (.Call (.Name x p) (e :: es) [] pos) (tE O X.K CA Wx (.blt t as)) :=
  peImp (pe_callB hc hg hm hv ha hn hdb he hpl) fun σ H Q h => by
    obtain ⟨ρ, cs, m, f, env, c, h'⟩ := blt_ok h
    exact ⟨ρ, cs, m, f, env, c, h'.imp (fun _ _ z => z) fun ws cs' z vs H' m' k r' c' => hr vs H' Q (z vs H' m' k r' c')⟩
theorem te_bltT {t : Mi.Blt} {x : Str} {T : String} {p : Pos} (hc : CallR X (.type T) (rvF X.K (Mi.blt t))) (hg : Gl X x) (hm : X.mg x = none) (hv : bootBuiltins x = some (.type T)) (ha : PA X (e :: es) (tAs O X.K CA Wx as)) (hn : x ≠ "__name__") (hdb : (x == ("__debug__" : Str)) = false)
    (he : starEach (e :: es) X.env = (false, eval e X.env) :: starEach es X.env) (hpl : (backTo pos (starEach es X.env)).any (·.1) = false) : PE X (.Call (.Name x p) (e :: es) [] pos) (tE O X.K CA Wx (.blt t as)) :=
  peImp (pe_callTy hc hg hm hv ha hn hdb he hpl) fun σ H Q h => blt_ok h
theorem te_isi {t : Mi.Ty} {x y : Str} {p p2 : Pos} (ha : PE X a (tE O X.K CA Wx ea)) (hg : Gl X x) (hx : x = "isinstance") (hm : X.mg x = none) (hg2 : Gl X y) (hm2 : X.mg y = none) (hy : bootBuiltins y = some (.type (tyOf t))) (hn2 : y ≠ "__name__") (hdb2 : (y == ("__debug__" : Str)) = false)
    (he : starEach [a, .Name y p2] X.env = (false, eval a X.env) :: starEach [.Name y p2] X.env) : PE X (.Call (.Name x p) [a, .Name y p2] [] pos) (tE O X.K CA Wx (.isi ea t)) := by
  subst hx
  refine peImp (pe_callB (call_isi2 t) hg hm (by decide +kernel) (pa_cons ha (pa_cons (pe_bltn (v := .ty (tyOf t)) hg2 hm2 hy rfl hn2 hdb2) pa_nil) he) (by decide) (by decide) he (by rfl)) fun σ H Q ⟨ρ, cs, m, f, env, c, h⟩ => ?_
  unfold Mi.ev at h
  refine tE_then env c h fun w cs1 v H1 m1 k1 o1 env1 h1 => ?_
  cases e : Mi.isiW t w cs1 with
  | none =>
    rw [e] at h1
    exact h1.elim
  | some k =>
    rw [e] at h1
    exact ⟨w, v, cs1, m1, f, k, rfl, o1.rep, o1.cells, e, h1 _ H1 m1 k1 (.old (.bl k) o1.cells)⟩
/-! ### methods of lists -/
theorem meth_ok {t : Mi.Mth} {σ : LS} {H : Hp} {Q : VK} (h : tE O X.K CA Wx (.meth t ea as) σ H Q) : tBM X.K "list" (rvM X.K t) (tE O X.K CA Wx ea) (tAs O X.K CA Wx as) σ H Q := by
  obtain ⟨ρ, cs, m, f, env, c, h⟩ := h
  unfold Mi.ev at h
  refine tE_then env c h fun w cs1 v H1 m1 k1 o1 env1 h1 => ?_
  split at h1
  · rename_i hw
    have hl : tyV X.K "list" v H1 := by
      cases w <;> first | (cases hw; done) | skip
      rename_i n
      cases o1 with
      | old r c1 =>
        cases r with
        | ref hm =>
          obtain ⟨xs, e⟩ := Option.isSome_iff_exists.mp (show (Mi.cellL cs1 n).isSome = true from hw)
          obtain ⟨vs, g1, _⟩ := c1.lst hm e
          exact .inl ⟨rfl, _, SqL.of g1⟩
    refine ⟨hl, tAs_then env1 o1.cells h1 fun ws cs2 vs H2 m2 k2 r2 c2 env2 h2 => ?_⟩
    exact ⟨w, ws, cs2, m2, f, o1.rep.mono k2, r2, c2, (h2.imp (z' := fun _ _ => True) (fun _ _ _ => trivial) fun _ _ z => z.mono (k1.trans k2)).rq⟩
  · exact h1.elim
theorem meth0_ok {t : Mi.Mth} {σ : LS} {H : Hp} {Q : VK} (h : tE O X.K CA Wx (.meth t ea .nil) σ H Q) : tBM0 X.K "list" (rvM X.K t) (tE O X.K CA Wx ea) σ H Q := by
  obtain ⟨ρ, cs, m, f, env, c, h⟩ := meth_ok h
  refine ⟨ρ, cs, m, f, env, c, h.imp (fun _ _ z => z) fun w cs1 z v H1 m1 k1 o1 => ?_⟩
  obtain ⟨h1, ρ2, cs2, m2, f2, env2, c2, h2⟩ := z v H1 m1 k1 o1
  unfold Mi.evs at h2
  exact ⟨h1, h2 [] H1 m2 Keep.refl .nil c2⟩
theorem te_append {o : Expr} {apos : Pos} (ho : PE X o (tE O X.K CA Wx ea)) (ha : PA X [e] (tAs O X.K CA Wx as)) (hbase : attributeBase o "append" X.env (eval o X.env) = eval o X.env) (hline : (apos.endLine == pos.line) = true) (hs : starEach [e] X.env = (false, eval e X.env) :: starEach [] X.env) :
    PE X (.Call (.Attribute o "append" apos) [e] [] pos) (tE O X.K CA Wx (.meth .append ea as)) :=
  peImp (pe_bm PySem.F.plainAttrs_list PySem.F.slot_list_append PySem.F.type_list_append mt_append2 ho ha hbase (by rw [hs]; rfl) hline hs (by rfl)) fun _ _ _ h => meth_ok h
theorem te_extend {o : Expr} {apos : Pos} (ho : PE X o (tE O X.K CA Wx ea)) (ha : PA X [e] (tAs O X.K CA Wx as)) (hbase : attributeBase o "extend" X.env (eval o X.env) = eval o X.env) (hline : (apos.endLine == pos.line) = true) (hs : starEach [e] X.env = (false, eval e X.env) :: starEach [] X.env) :
    PE X (.Call (.Attribute o "extend" apos) [e] [] pos) (tE O X.K CA Wx (.meth .extend ea as)) :=
  peImp (pe_bm PySem.F.plainAttrs_list PySem.F.slot_list_extend PySem.F.type_list_extend mt_extend2 ho ha hbase (by rw [hs]; rfl) hline hs (by rfl)) fun _ _ _ h => meth_ok h
theorem te_popAt {o : Expr} {apos : Pos} (ho : PE X o (tE O X.K CA Wx ea)) (ha : PA X [e] (tAs O X.K CA Wx as)) (hbase : attributeBase o "pop" X.env (eval o X.env) = eval o X.env) (hline : (apos.endLine == pos.line) = true) (hs : starEach [e] X.env = (false, eval e X.env) :: starEach [] X.env) :
    PE X (.Call (.Attribute o "pop" apos) [e] [] pos) (tE O X.K CA Wx (.meth .popAt ea as)) :=
  peImp (pe_bm PySem.F.plainAttrs_list PySem.F.slot_list_pop PySem.F.type_list_pop mt_pop2 ho ha hbase (by rw [hs]; rfl) hline hs (by rfl)) fun σ H Q h => by
    obtain ⟨ρ, cs, m, f, env, c, h⟩ := meth_ok h
    refine ⟨ρ, cs, m, f, env, c, h.imp (fun _ _ z => z) fun w cs1 z v H1 m1 k1 o1 => ?_⟩
    obtain ⟨h1, ρ2, cs2, m2, f2, env2, c2, h2⟩ := z v H1 m1 k1 o1
    exact ⟨h1, ρ2, cs2, m2, f2, env2, c2, h2.imp (fun _ _ z => z) fun ws cs3 z vs H3 m3 k3 r3 c3 => .inr (z vs H3 m3 k3 r3 c3)⟩
theorem te_pop {o : Expr} {apos : Pos} (ho : PE X o (tE O X.K CA Wx ea)) (hbase : attributeBase o "pop" X.env (eval o X.env) = eval o X.env) (hline : (apos.endLine == pos.line) = true) :
    PE X (.Call (.Attribute o "pop" apos) [] [] pos) (tE O X.K CA Wx (.meth .pop ea .nil)) :=
  peImp (pe_bm0 PySem.F.plainAttrs_list PySem.F.slot_list_pop PySem.F.type_list_pop mt_pop2 ho hbase hline) fun σ H Q h => by
    obtain ⟨ρ, cs, m, f, env, c, h⟩ := meth0_ok h
    refine ⟨ρ, cs, m, f, env, c, h.imp (fun _ _ z => z) fun w cs1 z v H1 m1 k1 o1 => ?_⟩
    obtain ⟨h1, h2⟩ := z v H1 m1 k1 o1
    exact ⟨h1, .inl h2⟩
/-! ### defs -/
/-- what a def promises: the evaluator's answer -/
def spF (K : PySem.W.Frag) (CA : Nat → Addr) (g : List W → List Ob → R W) : Sp := fun vs H Q E => ∃ (ws : List W) (cs : List Ob) (m f : List Addr), Reps K H m f ws vs ∧ Cells K H m f cs ∧ Rw (Zs K CA E H m f) (g ws cs) (Ps K H m f Q)
theorem derefL_reps {K : PySem.W.Frag} {H : Hp} {m f : List Addr} {d : W → Option W} (hd : ∀ w w' v, Rep K H m f w v → d w = some w' → Rep K H [] f w' v) : ∀ {ws ws' : List W} {vs : List V}, Reps K H m f ws vs → Mi.derefL d ws = some ws' → Reps K H [] f ws' vs
  | _, _, _, .nil, e => by
    cases e
    exact .nil
  | _, _, _, .cons (w := w) (ws := ws) r t, e => by
    unfold Mi.derefL at e
    split at e
    · rename_i v vs e1 e2
      cases e
      exact .cons (hd _ _ _ r e1) (derefL_reps hd t e2)
    · cases e
theorem deref_rep {K : PySem.W.Frag} {H : Hp} {m f : List Addr} {cs : List Ob} (c : Cells K H m f cs) : ∀ (k : Nat) (w w' : W) (v : V), Rep K H m f w v → Mi.deref cs k w = some w' → Rep K H [] f w' v
  | 0, _, _, _, _, e => by cases e
  | k + 1, w, w', v, r, e => by
    have ih := deref_rep c k
    cases r with
    | non => cases e; exact .non
    | bl b => cases e; exact .bl b
    | int i => cases e; exact .int i
    | str x => cases e; exact .str x
    | scr h1 h2 h3 h4 =>
      simp only [Mi.deref, Option.map_eq_some_iff] at e
      obtain ⟨ys, e1, e2⟩ := e
      subst e2
      exact .scr h1 (by simp) h3 (derefL_reps ih h4 e1)
    | kscr h1 h2 =>
      simp only [Mi.deref, Option.map_eq_some_iff] at e
      obtain ⟨ys, e1, e2⟩ := e
      subst e2
      exact .kscr h1 (derefL_reps ih h2 e1)
    | tup h1 h2 h3 h4 =>
      simp only [Mi.deref, Option.map_eq_some_iff] at e
      obtain ⟨ys, e1, e2⟩ := e
      subst e2
      exact .tup h1 (by simp) h3 (derefL_reps ih h4 e1)
    | ktup h1 h2 =>
      simp only [Mi.deref, Option.map_eq_some_iff] at e
      obtain ⟨ys, e1, e2⟩ := e
      subst e2
      exact .ktup h1 (derefL_reps ih h2 e1)
    | lst h1 h2 h3 h4 =>
      simp only [Mi.deref, Option.map_eq_some_iff] at e
      obtain ⟨ys, e1, e2⟩ := e
      subst e2
      exact .lst h1 (by simp) h3 (derefL_reps ih h4 e1)
    | ref hr =>
      simp only [Mi.deref] at e
      split at e
      · rename_i xs e0
        simp only [Option.map_eq_some_iff] at e
        obtain ⟨ys, e1, e2⟩ := e
        subst e2
        obtain ⟨vs, h1, h2⟩ := c.lst hr e0
        exact .lst h1 (by simp) (fun z => c.fm _ z (List.mem_of_getElem? hr)) (derefL_reps ih h2 e1)
      · cases e
/-! ### a pure def's answer lies in the caller's heap -/
theorem flats_rep {K : PySem.W.Frag} {H : Hp} {m m1 f f1 : List Addr} {g : W → Bool} (hd : ∀ w v, Rep K H m1 f1 w v → g w = true → Rep K H m f w v) : ∀ {ws : List W} {vs : List V}, Reps K H m1 f1 ws vs → ws.all g = true → Reps K H m f ws vs
  | _, _, .nil, _ => .nil
  | _, _, .cons r t, h => by
    rw [List.all_cons, Bool.and_eq_true] at h
    exact .cons (hd _ _ r h.1) (flats_rep hd t h.2)
theorem tup_ne {H : Hp} {a : Addr} {vs : List V} (h : Rd H a (.tup vs)) (e : ∃ xs, H a = some (.lst xs)) : False := by
  obtain ⟨xs, e⟩ := e
  rcases h with h | ⟨o, h⟩ <;> (rw [e] at h; cases h)
theorem flat_rep {K : PySem.W.Frag} {H : Hp} {m m1 f f1 : List Addr} (hm : ∀ a ∈ m, ∃ vs, H a = some (.lst vs)) (hf : ∀ a ∈ f, a ∈ f1 ∨ ∃ vs, H a = some (.lst vs)) : ∀ (k : Nat) (w : W) (v : V), Rep K H m1 f1 w v → Mi.flat k w = true → Rep K H m f w v
  | 0, _, _, _, h => by cases h
  | k + 1, w, v, r, h => by
    have ih : ∀ {ws : List W} {vs : List V}, Reps K H m1 f1 ws vs → ws.all (Mi.flat k) = true → Reps K H m f ws vs := fun r h => flats_rep (flat_rep hm hf k) r h
    cases r with
    | non => exact .non
    | bl b => exact .bl b
    | int i => exact .int i
    | str x => exact .str x
    | scr _ _ _ _ => cases h
    | kscr _ _ => cases h
    | lst _ _ _ _ => cases h
    | ref _ => cases h
    | ktup h1 h2 => exact .ktup h1 (ih h2 h)
    | tup h1 h2 h3 h4 => exact .tup h1 (fun z => tup_ne h1 (hm _ z)) (fun z => (hf _ z).elim h3 (tup_ne h1)) (ih h4 h)
mutual
theorem Rep.far {K : PySem.W.Frag} {H H' : Hp} {m m' f : List Addr} {p : Addr} (hp : H p = none) (k : Keep H H' m m') : ∀ {w : W} {v : V}, Rep K H m f w v → Rep K H' m' (p :: f) w v
  | _, _, .non => .non
  | _, _, .bl b => .bl b
  | _, _, .int i => .int i
  | _, _, .str s => .str s
  | _, _, .tup h ha hf hs => .tup (k.rd h ha).1 (k.rd h ha).2 (notin_new (rd_ne h hp) hf) (Reps.far hp k hs)
  | _, _, .ktup h hs => .ktup h (Reps.far hp k hs)
  | _, _, .kscr h hs => .kscr h (Reps.far hp k hs)
  | _, _, .lst h ha hf hs => .lst (k.same _ _ h ha) (k.out h ha) (notin_new (ne_of_none h hp) hf) (Reps.far hp k hs)
  | _, _, .scr h ha hf hs => .scr (k.rd h ha).1 (k.rd h ha).2 (notin_new (rd_ne h hp) hf) (Reps.far hp k hs)
  | _, _, .ref h => .ref (k.get h)
theorem Reps.far {K : PySem.W.Frag} {H H' : Hp} {m m' f : List Addr} {p : Addr} (hp : H p = none) (k : Keep H H' m m') : ∀ {ws : List W} {vs : List V}, Reps K H m f ws vs → Reps K H' m' (p :: f) ws vs
  | _, _, .nil => .nil
  | _, _, .cons h hs => .cons (Rep.far hp k h) (Reps.far hp k hs)
end
section
variable {K : PySem.W.Frag} {H H' : Hp} {m m1 f : List Addr} {cs : List Ob}
theorem keep_pure (k : Keep H H' [] m1) : Keep H H' m m := ⟨⟨[], by simp, fun _ h => nomatch h⟩, fun a o h _ => k.same a o h (by simp), k.dom⟩
theorem cells_pure (c : Cells K H m f cs) (k : Keep H H' [] m1) : Cells K H' m f cs := c.mono (keep_pure k) fun a ha => by
  cases e : H a with
  | none => exact absurd ha (c.notin e)
  | some o => exact k.same a o e (by simp)
theorem cells_far {p : Addr} (c : Cells K H m f cs) (k : Keep H H' [] m1) (hp : H p = none) (hp' : H' p ≠ none) : Cells K H' m (p :: f) cs := by
  have c' := cells_pure c k
  refine ⟨c.len, c.nd, fun a ha => ?_, fun a ha => ?_, fun n a ob h1 h2 => ?_⟩
  · rcases List.mem_cons.mp ha with e | ha
    · rw [e]
      exact hp'
    · exact c'.fd a ha
  · rcases List.mem_cons.mp ha with e | ha
    · rw [e]
      exact c.notin hp
    · exact c.fm a ha
  · have q := c.at_ n a ob h1 h2
    cases ob with
    | lst xs =>
      obtain ⟨vs, h3, h4⟩ := q
      exact ⟨vs, k.same a _ h3 (by simp), h4.far hp (keep_pure k)⟩
    | ins x fs => exact q
theorem Cells.lists (c : Cells K H m f cs) : ∀ a ∈ m, ∃ vs, H a = some (.lst vs) := fun a ha => by
  obtain ⟨n, hn⟩ := List.getElem?_of_mem ha
  have hl : n < cs.length := by
    rw [c.len]
    exact (List.getElem?_eq_some_iff.mp hn).1
  have q := c.at_ n a cs[n] hn (List.getElem?_eq_getElem hl)
  cases e : cs[n] with
  | lst xs =>
    rw [e] at q
    obtain ⟨vs, h1, _⟩ := q
    exact ⟨vs, h1⟩
  | ins x fs =>
    rw [e] at q
    exact q.elim
theorem handed_out {w w' : W} {c1 : List Ob} {v : V} (c : Cells K H m f cs) (k : Keep H H' [] m1) (o : Out K H [] f H' m1 w c1 v) (e : Mi.handed c1 w = some w') : Out K H m f H' m w' cs v := by
  have c' := cells_pure c k
  cases o with
  | new h1 h2 h3 h4 h5 =>
    unfold Mi.handed at e
    split at e
    · rename_i q
      cases q
    · rename_i xs q
      cases q
      split at e
      · rename_i hf
        cases e
        exact .new h1 h2 h3 (flats_rep (flat_rep c'.lists (fun a ha => .inl ha) _) h4 hf) (cells_far c k h1 (by rw [h3]; exact fun z => nomatch z))
      · cases e
    · rename_i q1 q2
      exact absurd rfl (q2 _)
  | old r c2 =>
    cases r with
    | @ref n a hr =>
      unfold Mi.handed at e
      simp only at e
      split at e
      · rename_i xs ex
        split at e
        · rename_i hf
          cases e
          obtain ⟨vs, g1, g2⟩ := c2.lst hr ex
          have ha : H a = none := by
            obtain ⟨n1, e1, e2⟩ := k.ext
            rw [List.nil_append] at e1
            subst e1
            exact e2 a (List.mem_of_getElem? hr)
          refine .new ha (c.notf ha) g1 (flats_rep (flat_rep c'.lists (fun b hb => ?_) _) g2 hf) (cells_far c k ha (by rw [g1]; exact fun z => nomatch z))
          rcases List.mem_cons.mp hb with e | hb
          · exact .inr ⟨vs, by rw [e]; exact g1⟩
          · exact .inl hb
        · cases e
      · cases e
    | _ => 
      unfold Mi.handed at e
      simp only at e
      split at e
      · rename_i hf
        cases e
        refine .old (flat_rep (m1 := m1) c'.lists (fun a ha => .inl ha) _ _ _ ?_ hf) c'
        first | exact .non | exact .bl _ | exact .int _ | exact .str _ | exact .tup (by assumption) (by assumption) (by assumption) (by assumption) | exact .ktup (by assumption) (by assumption) | exact .kscr (by assumption) (by assumption) | exact .lst (by assumption) (by assumption) (by assumption) (by assumption) | exact .scr (by assumption) (by assumption) (by assumption) (by assumption)
      · cases e
end
theorem cells_none {K : PySem.W.Frag} {H : Hp} {m f : List Addr} {cs : List Ob} (c : Cells K H m f cs) : Cells K H [] f [] := ⟨rfl, List.nodup_nil, c.fd, fun _ _ h => (nomatch h), fun _ _ _ h => (by simp at h)⟩
theorem flatX_rep {K : PySem.W.Frag} {CA : Nat → Addr} {H : Hp} {m m1 f : List Addr} {x : Xn} {cls : Value} {d : Option Addr} (hm : ∀ a ∈ m, ∃ vs, H a = some (.lst vs)) (r : XRep K CA H m1 f x cls d) (h : Mi.flatX x = true) : XRep K CA H m f x cls d := by
  obtain ⟨h1, dd, vs, h2, h3, h4⟩ := r
  refine ⟨h1, dd, vs, h2, h3, flats_rep (flat_rep hm (fun a ha => .inl ha) Mi.deep) h4 ?_⟩
  rw [List.all_map]
  exact h
theorem callP_ok {g : List W → List Ob → R W} {fn : Nat} (hg : O.call fn = g) {σ : LS} {H H2 : Hp} {m m2 f : List Addr} {cs2 : List Ob} {ws : List W} {vs : List V} {Q : VK} (k2 : Keep H H2 m m2) (r2 : Reps X.K H2 m2 f ws vs) (c2 : Cells X.K H2 m2 f cs2)
    (h2 : Rw (Zs X.K CA (WE Wx σ) H2 m2 f) (Mi.callP O fn ws cs2) (Ps X.K H m f Q)) : spF X.K CA g vs H2 Q (WE Wx σ) := by
  unfold Mi.callP at h2
  split at h2
  · rename_i vs' e1
    refine ⟨vs', [], [], f, derefL_reps (deref_rep c2 _) r2 e1, cells_none c2, ?_⟩
    rw [hg] at h2
    cases e2 : g vs' [] with
    | bad =>
      rw [e2] at h2
      exact h2
    | exn x c1 =>
      rw [e2] at h2
      simp only at h2
      split at h2
      · rename_i hx
        intro cls d H' m1 k c1' xr
        exact h2 cls d H' m2 (keep_pure k) (cells_pure c2 k) (flatX_rep (cells_pure c2 k).lists xr hx)
      · exact h2.elim
    | ok w c1 =>
      rw [e2] at h2
      simp only at h2
      split at h2
      · rename_i v e3
        intro v' H' m1 k o
        exact h2 v' H' m2 (k2.trans (keep_pure k)) ((handed_out c2 k o e3).back k2)
      · exact h2.elim
  · exact h2.elim
section
variable {k n : Nat} {fa : Addr} {fd : FuncData} {ps : List Str} {x : Str} {p : Pos}
theorem te_callP (tk : Takes X Wx) (F : FnOk X.prog X.w X.K X.mg X.base (L2.CX X.prog X.w) k fa fd ps (spF X.K CA (O.call n))) (hr : Room k X.A) (hg : Gl X x) (hm : X.mg x = some (.ref fa)) (hk : PySem.W.keepIn X.K (.ref fa) = true) (hb : Binds X.K fd ps [])
    (ha : PA X (e :: es) (tAs O X.K CA Wx as)) (hdb : (x == ("__debug__" : Str)) = false) (he : starEach (e :: es) X.env = (false, eval e X.env) :: starEach es X.env) (hpl : (backTo pos (starEach es X.env)).any (·.1) = false) :
    PE X (.Call (.Name x p) (e :: es) [] pos) (tE O X.K CA Wx (.callP n as)) :=
  peImp (pe_callS F hr hg hm hk hb (passAt tk) ha hdb he hpl) fun σ H Q ⟨ρ, cs, m, f, env, c, h⟩ => by
    unfold Mi.ev at h
    refine tAs_then env c h fun ws cs2 vs H2 m2 k2 r2 c2 env2 h2 => ?_
    exact callP_ok rfl k2 r2 c2 h2
theorem te_callH (tk : Takes X Wx) (F : FnOk X.prog X.w X.K X.mg X.base (L2.CX X.prog X.w) k fa fd ps (spF X.K CA (O.call n))) (hr : Room k X.A) (hg : Gl X x) (hm : X.mg x = some (.ref fa)) (hk : PySem.W.keepIn X.K (.ref fa) = true) (hb : Binds X.K fd ps [])
    (ha : PA X (e :: es) (tAs O X.K CA Wx as)) (hdb : (x == ("__debug__" : Str)) = false) (he : starEach (e :: es) X.env = (false, eval e X.env) :: starEach es X.env) (hpl : (backTo pos (starEach es X.env)).any (·.1) = false) :
    PE X (.Call (.Name x p) (e :: es) [] pos) (tE O X.K CA Wx (.callH n as)) :=
  peImp (pe_callS F hr hg hm hk hb (passAt tk) ha hdb he hpl) fun σ H Q ⟨ρ, cs, m, f, env, c, h⟩ => by
    unfold Mi.ev at h
    refine tAs_then env c h fun ws cs2 vs H2 m2 k2 r2 c2 env2 h2 => ?_
    exact ⟨ws, cs2, m2, f, r2, c2, h2.imp (fun _ _ z => z) fun _ _ z => z.mono k2⟩
theorem perm_reps {K : PySem.W.Frag} {H : Hp} {m f : List Addr} {ws : List W} {vs : List V} (r : Reps K H m f ws vs) : ∀ pm : List Nat, Reps K H m f (Mi.permute ws pm) (Mi.permute vs pm)
  | [] => .nil
  | i :: pm => by
    have ih := perm_reps r pm
    unfold Mi.permute at ih ⊢
    rw [List.filterMap_cons, List.filterMap_cons]
    cases e : ws[i]? with
    | none =>
      have e2 : vs[i]? = none := by
        rw [List.getElem?_eq_none_iff] at e ⊢
        rw [← r.length]
        exact e
      rw [e2]
      exact ih
    | some w =>
      obtain ⟨v, h1, h2⟩ := r.get e
      rw [h1]
      exact .cons h2 ih
/-- f(k = v, ..), by keywords alone: how they are bound -/
def KPer (K : PySem.W.Frag) (fd : FuncData) (ps ks : List Str) (pm : List Nat) : Prop := ∀ (s : Shared) (ws : List Value), K.In s.heap → (Mi.permute ws pm).length = ps.length → BindsTo s fd ⟨[], ks.zip ws⟩ (ps.zip (Mi.permute ws pm))
theorem perm_vals {zs : List V} {ws : List Value} (r : Vals zs ws) : ∀ pm : List Nat, Vals (Mi.permute zs pm) (Mi.permute ws pm)
  | [] => .nil
  | i :: pm => by
    have ih := perm_vals r pm
    unfold Mi.permute at ih ⊢
    rw [List.filterMap_cons, List.filterMap_cons]
    cases e : zs[i]? with
    | none =>
      have e2 : ws[i]? = none := by
        rw [List.getElem?_eq_none_iff] at e ⊢
        rw [← r.length]
        exact e
      rw [e2]
      exact ih
    | some v =>
      obtain ⟨u, h1, h2⟩ := r.get e
      rw [h1]
      exact .cons h2 ih
theorem run_kw {pins : List (Addr × Obj)} {σ : LS} {H : Hp} {s : Shared} {Q : VK} {us : List Value} {zs : List V} {sp : Sp} {E : XK} {ks : List Str} {pm : List Nat} (F : FnOk X.prog X.w X.K X.mg X.base (L2.CX X.prog X.w) k fa fd ps sp) (hr : Room k X.A) (hb : KPer X.K fd ps ks pm) (hx : PassesAt (L2.CX X.prog X.w) X σ E)
    (I : Inv X pins σ H s) (rz : Vals zs us) (h : sp (Mi.permute zs pm) H Q E) : wpAny (model X.prog X.w) X.A (call (.ref fa) [] (ks.zip us)) (EP X pins σ Q) X.xe s := by
  have r2 := perm_vals rz pm
  have hl := (r2.length.symm.trans (F.len _ _ _ _ h))
  refine wpAny_call (codeAny_mono (F.run X.A X.stack s H ⟨[], ks.zip us⟩ _ _ Q E hr I.env0 (hb s us I.kIn hl) r2 h) fun r s' hq => ?_)
  match r, hq with
  | .error e, hq => exact hx pins H s e s' I hq
  | .ok (.ret u), hq => exact I.after hq
  | .ok .next, hq => exact hq.elim
  | .ok .brk, hq => exact hq.elim
  | .ok .cont, hq => exact hq.elim
/-- f(k = v, ..), by keywords alone -/
theorem te_callPK {ks : List Str} {pm : List Nat} {kws : List Keyword} (tk : Takes X Wx) (F : FnOk X.prog X.w X.K X.mg X.base (L2.CX X.prog X.w) k fa fd ps (spF X.K CA (O.call n))) (hr : Room k X.A) (hg : Gl X x) (hm : X.mg x = some (.ref fa)) (hk : PySem.W.keepIn X.K (.ref fa) = true)
    (hb : KPer X.K fd ps ks pm) (hkw : PK X kws (tAs O X.K CA Wx as)) (hall : (backToKw pos (keywordEach kws X.env)).all (·.1.isSome) = true) (hks : (backToKw pos (keywordEach kws X.env)).filterMap (·.1) = ks)
    (hdb : (x == ("__debug__" : Str)) = false) (hpl : ((backTo pos (starEach [] X.env)).any (·.1) || (backToKw pos (keywordEach kws X.env)).any (·.1.isNone)) = false) :
    PE X (.Call (.Name x p) [] kws pos) (tE O X.K CA Wx (.callPK n as pm)) := by
  refine ⟨fun pins s σ H Q I ⟨ρ, cs, m, f, env, c, h⟩ => ?_⟩
  unfold Mi.ev at h
  refine wpAny_Call_Name_kw (ld_glob I hg hm ?_ hdb)
  refine PySem.W.callWith_KW0 (h₀ := X.base) I.ok.mod.kin hk hall ?_ hpl
  have h' : tAs O X.K CA Wx as σ H (fun zs H2 => spF X.K CA (O.call n) (Mi.permute zs pm) H2 Q (WE Wx σ)) := tAs_then env c h fun ws cs2 vs H2 m2 k2 r2 c2 env2 h2 => callP_ok rfl k2 (perm_reps r2 pm) c2 h2
  refine thn (hkw.run pos pins s σ H _ I h') fun ws s2 ⟨zs, H2, I2, rz, q2⟩ => ⟨I2.kIn, ?_⟩
  rw [hks]
  exact run_kw F hr hb (passAt tk σ) I2 rz q2
theorem tk_nil : PK X [] (tAs O X.K CA Wx .nil) := ⟨fun pos pins s σ H Q I ⟨ρ, cs, m, f, env, c, h⟩ => by
  unfold Mi.evs at h
  exact pk_nil.run pos pins s σ H Q I (h _ H m Keep.refl .nil c)⟩
theorem tk_cons {nm : Option Str} {kpos : Pos} {kws : List Keyword} (ha : PE X e (tE O X.K CA Wx ea)) (hr : PK X kws (tAs O X.K CA Wx as)) : PK X (⟨nm, e, kpos⟩ :: kws) (tAs O X.K CA Wx (.cons ea as)) :=
  ⟨fun pos pins s σ H Q I ⟨ρ, cs, m, f, env, c, h⟩ => by
    unfold Mi.evs at h
    refine (pk_cons ha hr).run pos pins s σ H Q I (tE_then env c h fun w cs1 v H1 m1 k1 o1 env1 h1 => ?_)
    refine tAs_then env1 o1.cells h1 fun ws cs2 vs H2 m2 k2 r2 c2 env2 h2 => ?_
    exact h2 (v :: vs) H2 m2 (k1.trans k2) (.cons (o1.rep.mono k2) r2) c2⟩
end
end
end So
namespace So
open PySem PySem.Spec PyProof.Rows L2
open Mi (W Ob Xn R Orc)
theorem Keep.cellNew {H0 H : Hp} {m0 m : List Addr} {a : Addr} (k : Keep H0 H m0 m) (h : H0 a = none) : Keep H0 H m0 (m ++ [a]) := by
  refine ⟨?_, k.same, k.dom⟩
  obtain ⟨n, e, hn⟩ := k.ext
  refine ⟨n ++ [a], by rw [e, List.append_assoc], fun b hb => ?_⟩
  rcases List.mem_append.mp hb with z | z
  · exact hn b z
  · rw [List.mem_singleton.mp z]
    exact h
section
variable {X : Cx} {O : Orc} {CA : Nat → Addr} {Wx : WX} {a b : Expr} {ea eb : Mi.Ex} {pos : Pos}
/-- a list just made becomes a cell -/
theorem cel_val {K : PySem.W.Frag} {σ : LS} {H : Hp} {Q : VK} (h : tE O K CA Wx (.cel ea) σ H Q) : tE O K CA Wx ea σ H Q := by
  obtain ⟨ρ, cs, m, f, env, c, h⟩ := h
  rw [Mi.ev] at h
  refine tE_then env c h fun w cs1 v H1 m1 k1 o1 env1 h1 => ?_
  cases o1 with
  | old r c1 =>
    have hn : w = Mi.fz w := r.noNew.symm
    cases w <;> first | (cases hn; done) | exact h1 v H1 m1 k1 (.old r c1)
  | @new xs vs a cs' h2 h3 h4 h5 h6 =>
    have h1' : Ps K H m f Q (.ref cs1.length) (cs1 ++ [.lst xs]) := h1
    have hm : (m1 ++ [a])[cs1.length]? = some a := by
      rw [h6.len, List.getElem?_append_right (Nat.le_refl _), Nat.sub_self]
      rfl
    exact h1' _ H1 (m1 ++ [a]) (k1.cellNew h2) (.old (.ref hm) (h6.grow h3 h4 h5))
theorem te_cel (ha : PE X a (tE O X.K CA Wx ea)) : PE X a (tE O X.K CA Wx (.cel ea)) := peImp ha fun _ _ _ h => cel_val h
end
end So
end S_Exps2

section S_EnumT
set_option Elab.async false
set_option linter.all false
set_option maxRecDepth 100000
set_option maxHeartbeats 4000000
/-! EnumT: enumerate over a tuple. -/
namespace So
open PySem PySem.Spec PyProof.Rows L2
open Sem (wp)
open AutoSeq1 (wpAny_loadPart')
open Mi (W Ob Xn R Orc)
def tiObj (t : Addr) : Obj := { cls := .type "tuple_iterator", data := .fields #[.ref t, .int 0 0] }
def enObj (i : Addr) : Obj := { cls := .type "enumerate", data := .fields #[.none, .bool false, .ref i, rawInt 0, .none, .none] }
theorem enum_newT (t : Addr) (items : Array Value) (ob : Obj) (hT : ob.cls = .type "tuple" ∧ ∃ n, ob.data = .seq items n) :
    Meets (Builtin.«enumerate.__new__» ⟨[.type "enumerate", .ref t], []⟩) (fun _ R s => s.heap.get? t = some ob ∧ R (.ok (.ret (.ref (s.heap.push (tiObj t)).objs.size))) { s with heap := (s.heap.push (tiObj t)).push (enObj s.heap.objs.size) }) :=
  .of_wp fun prog w A R s h => by
    obtain ⟨hp, g, d, tk, os⟩ := s
    obtain ⟨hl, h⟩ := h
    have hsub := sub_enumerate
    obtain ⟨hc, n, hd⟩ := hT
    obtain ⟨c, dct, dt, sl⟩ := ob
    simp only at hc hd
    subst hc hd
    have hL : Heap.IsTuple (Shared.heap ⟨hp, g, d, tk, os⟩) t items := ⟨_, hl, rfl, n, rfl⟩
    wp_walk using wpAny_loadPart' hl
    refine wpAny_stack_any fun st => wpAny_pure ?_
    split
    · rename_i c _ _ _ _ _
      cases (c == Value.type "enumerate")
      all_goals
        wp_walk using wpAny_loadPart' hl, wpAny_pyIter_tuple hL
        exact ⟨_, rfl, h⟩
    · wp_walk using wpAny_loadPart' hl, wpAny_pyIter_tuple hL
      exact ⟨_, rfl, h⟩
theorem call_enumT {prog : Program} {w : World} {A : Around} {E : Value → Shared → Prop} {s : Shared} {t : Addr} {items : Array Value} {Q : Value → Shared → Prop} (hL : IsTup s.heap t items)
    (h : ∀ h', IsEnum h' (s.heap.objs.size + 1) s.heap.objs.size 0 .none → h'.IsTupleIter s.heap.objs.size t 0 → (∀ b o, s.heap.get? b = some o → h'.get? b = some o) → Q (.ref (s.heap.objs.size + 1)) { s with heap := h' }) :
    wpAny (model prog w) A (call (.type "enumerate") [.ref t]) Q E s := by
  obtain ⟨ob, hl, hc, n, hd⟩ := (show s.heap.IsTuple t items from hL)
  refine callType_new F.called_enumerate (by decide) (F.typeCall_enumerate_1 _) (F.newCall_enumerate_1 _) (fun obj => F.args_object_init_2 obj _) F.entry_enumerate_new (enum_newT t items ob ⟨hc, n, hd⟩) ?_
  have hz : (s.heap.push (tiObj t)).objs.size = s.heap.objs.size + 1 := Heap.size_push ..
  have he : IsEnum ((s.heap.push (tiObj t)).push (enObj s.heap.objs.size)) (s.heap.objs.size + 1) s.heap.objs.size 0 .none := by
    have q := Heap.get?_push_size (s.heap.push (tiObj t)) (o := enObj s.heap.objs.size) rfl
    rw [hz] at q
    exact q
  refine ⟨hl, ?_⟩
  rw [hz]
  exact ⟨⟨_, he, rfl⟩, h _ he ⟨_, Heap.get?_push_of_some _ (Heap.get?_push_size _ rfl), rfl, rfl⟩ fun b o x => Heap.get?_push_of_some _ (Heap.get?_push_of_some _ x)⟩
/-- the tuple at a, each item in a new pair -/
def IteT (K : PySem.W.Frag) (a : Addr) : It :=
  ⟨fun i H => ∃ (xs : List V) (x : V), SqT K H a xs ∧ xs[i]? = some x, fun i H v H' => ∃ T x, v = .ref T ∧ H T = none ∧ H' = upd H T (.tup [.int (i : Nat), x]) ∧ ∀ xs, SqT K H a xs → xs[i]? = some x, fun i H => ∃ xs : List V, SqT K H a xs ∧ xs.length = i⟩
theorem turn_enumT {P : Program} {w : World} {K : PySem.W.Frag} {elts : List Expr} {kk : Nat} {tpos : Pos} (a e it : Addr) (hae : a ≠ e) (hai : a ≠ it) :
    Turn P w K (.Tuple elts kk tpos) (IteT K a) [e, it] e (fun i h => (∃ old, IsEnum h e it ((i : Nat) : Int) old) ∧ h.IsTupleIter it a i ∧ e ≠ it) where
  mem := by simp
  obj := fun i h st b hb => by
    obtain ⟨⟨old, he⟩, ⟨o, ho, hc, hd⟩, _⟩ := st
    have e' : b = e ∨ b = it := by simpa using hb
    rcases e' with rfl | rfl
    · exact ⟨_, he, fun v q => nomatch q⟩
    · exact ⟨o, ho, fun v q => by rw [hd] at q; cases q⟩
  keep := fun i h h' st k => by
    obtain ⟨⟨old, he⟩, hi, hne⟩ := st
    exact ⟨⟨old, k e (by simp) _ he⟩, hi.at fun o q => k it (by simp) o q, hne⟩
  item := by
    intro X hP hw hK hc i pins s σ H E I hf st hg
    subst hP hw hK
    obtain ⟨⟨old, he⟩, hit, hne⟩ := st
    obtain ⟨xs, x, hq, hx⟩ := hg
    obtain ⟨its, rv, p, hz⟩ := I.tuple hq
    obtain ⟨u, hu, ru⟩ := rv.get hx
    have hel : e < s.heap.objs.size := Heap.lt_size he
    have hil : it < s.heap.objs.size := by
      obtain ⟨_, q, _⟩ := hit
      exact Heap.lt_size q
    have hh : X.A.in1.handled = none := I.ok.hd hc
    have hlt : i < its.toArray.size := by
      have := (List.getElem?_eq_some_iff.mp hu).1
      simpa using this
    refine wpAny_pyNext_enum_itemD (Draws.tuple (w := X.w) hh it a hai its.toArray) he ⟨hit, p⟩ hlt hne (by simp [hne, Ne.symm hae]) fun u' h' tk hP ho hst' hT hsz hk => ?_
    have eu : u' = u := by
      have q : its.toArray[i]? = some u' := hP
      have q2 : its.toArray[i]? = some u := by simpa using hu
      rw [q2] at q
      exact (Option.some.inj q).symm
    subst eu
    refine ⟨_, rfl, wpAny_letOwnedTupleGo_enum (s := { s with heap := h', toks := tk + 1 }) ho fun h'' he' sb => ?_⟩
    have hT2 : h''.get? s.heap.objs.size = some { cls := .type "tuple", data := .seq #[.int i tk, u'] } := (sb.2 _ (Nat.ne_of_gt hel)).trans hT
    have new : ObjOk X.prog X.w (upd H s.heap.objs.size (.tup [.int (i : Nat), x])) h'' s.heap.objs.size (.tup [.int (i : Nat), x]) :=
      ⟨by show 2 ≤ sizeLine; decide, [.int i tk, u'], .cons ⟨_, rfl⟩ (.cons ru .nil), ⟨_, hT2, rfl, _, rfl⟩⟩
    have I1 : Inv X pins σ (upd H s.heap.objs.size (.tup [.int (i : Nat), x])) { s with heap := h'', toks := tk + 1 } :=
      I.turnedNew (ch := [e, it]) (fun b ob hb q => (sb.2 b (fun z => hb (by simp [z]))).trans (hk b ob (fun z => hb (by simp [z])) (fun z => hb (by simp [z])) q)) hf (Nat.le_refl _) new
    have hit' := hst'.1
    refine ⟨.ref s.heap.objs.size, _, I1, rfl, ⟨_, x, rfl, I.hok.fresh (Nat.le_refl _), rfl, fun ys hy => by rw [I.tuple_inj hy hq]; exact hx⟩, ⟨⟨u', ?_⟩, hit'.at fun o q => (sb.2 it (Ne.symm hne)).trans q, hne⟩, fun b hb => ?_⟩
    · have e1 : ((i + 1 : Nat) : Int) = (i : Int) + 1 := by omega
      rw [e1]
      exact he'
    · have e' : b = e ∨ b = it := by simpa using hb
      have hb' : b < s.heap.objs.size := by rcases e' with rfl | rfl <;> assumption
      rw [upd_ne (Nat.ne_of_lt hb')]
      exact (hf b hb).1
  done := by
    intro X hP hw hK hc i pins s σ H E I hf st hg
    subst hP hw hK
    obtain ⟨⟨old, he⟩, hit, hne⟩ := st
    obtain ⟨xs, hq, hx⟩ := hg
    obtain ⟨its, rv, p, hz⟩ := I.tuple hq
    obtain ⟨f0, f1, f2, f3, f4, f5⟩ := hf it (by simp)
    have hl := rv.length
    have e1 : its.toArray.size = i := by simp; omega
    subst e1
    have hh : X.A.in1.handled = none := I.ok.hd hc
    exact wpAny_pyNext_enum_endD (Draws.tuple (w := X.w) hh it a hai its.toArray) he ⟨hit, p⟩ fun h' eb => ⟨rfl, I.turned (t' := s.toks) (fun b o hb q => eb b o hb q) f0 f1 f3 f4 f5⟩
  self := fun A i s Q E st h => by
    obtain ⟨⟨_, he⟩, _⟩ := st
    exact wpAny_pyIter_enum he h
/-- enumerate(x), x a list or a tuple -/
def iEnumA (K : PySem.W.Frag) (ta : TA) : TI := fun σ H R => ta σ H fun vs H1 => ∃ a xs, vs = [.ref a] ∧ ((SqL K H1 a xs ∧ R (Ite K a) H1) ∨ (SqT K H1 a xs ∧ R (IteT K a) H1))
theorem pi_enumA {X : Cx} {e : Expr} {ta : TA} {p pos tpos : Pos} {elts : List Expr} {kk : Nat} (hg : Gl X "enumerate") (hm : X.mg "enumerate" = none) (ha : PA X [e] ta) (hs : starEach [e] X.env = [(false, eval e X.env)] := by rfl) :
    PI X (.Tuple elts kk tpos) (.Call (.Name "enumerate" p) [e] [] pos) (iEnumA X.K ta) := by
  refine ⟨fun pins s σ H R I h => ?_⟩
  refine Call_ (ld_blt I hg hm PyProof.Rows.boot_enumerate (PyProof.Rows.callWith_type1 (thn (ha.run pos pins s σ H _ I h) fun us s1 ⟨vs, H1, I1, r1, q1⟩ => ?_) hs rfl))
  obtain ⟨a, xs, ex, q1⟩ := q1
  subst ex
  cases r1 with
  | cons r rr =>
    cases rr
    cases r
    have fr2 : ∀ b ∈ [s1.heap.objs.size + 1, s1.heap.objs.size], FpOk X pins H1 b := fun b hb => by
      have e' : b = s1.heap.objs.size + 1 ∨ b = s1.heap.objs.size := by simpa using hb
      have hle : s1.heap.objs.size ≤ b := by omega
      exact I1.fpOk hle (I1.hok.fresh hle)
    rcases q1 with ⟨hq, q⟩ | ⟨hq, q⟩
    · obtain ⟨its, rv, p', hz⟩ := I1.list hq
      refine call_enumerate_list p'.isList fun h' he hit hsz hk => wpAny_pyIter_enum he ?_
      exact ⟨s1.heap.objs.size + 1, [s1.heap.objs.size + 1, s1.heap.objs.size], _, _, H1, rfl, I1.kept (t' := s1.toks) hk, turn_enum a (s1.heap.objs.size + 1) s1.heap.objs.size, ⟨⟨.none, he⟩, hit, Nat.succ_ne_self _⟩, fr2, q⟩
    · obtain ⟨its, rv, p', hz⟩ := I1.tuple hq
      have hlt : a < s1.heap.objs.size := by
        obtain ⟨o, ho, _⟩ := id p'
        exact Heap.lt_size ho
      refine call_enumT p' fun h' he hit hk => wpAny_pyIter_enum he ?_
      exact ⟨s1.heap.objs.size + 1, [s1.heap.objs.size + 1, s1.heap.objs.size], _, _, H1, rfl, I1.kept (t' := s1.toks) hk, turn_enumT a (s1.heap.objs.size + 1) s1.heap.objs.size (Nat.ne_of_lt (Nat.lt_succ_of_lt hlt)) (Nat.ne_of_lt hlt), ⟨⟨.none, he⟩, hit, Nat.succ_ne_self _⟩, fr2, q⟩
end So
end S_EnumT

section S_Its
set_option Elab.async false
set_option linter.all false
set_option maxRecDepth 100000
set_option maxHeartbeats 4000000
/-! Its: what is walked; comprehensions. -/
namespace So
open PySem PySem.Spec PyProof.Rows L2
open Mi (W Ob Xn R Orc)
/-- later, perhaps with more that is not spoken of -/
structure Later (K : PySem.W.Frag) (H : Hp) (m f : List Addr) (H1 : Hp) (m1 f1 : List Addr) : Prop where
  rep : ∀ w v, Rep K H m f w v → Rep K H1 m1 f1 w v
section
variable {K : PySem.W.Frag} {H H1 H2 : Hp} {m m1 m2 f f1 f2 : List Addr}
theorem Later.of (k : Keep H H1 m m1) : Later K H m f H1 m1 f := ⟨fun _ _ r => r.mono k⟩
theorem Later.far {D : Addr} (hD : H D = none) (k : Keep H H1 m m1) : Later K H m f H1 m1 (D :: f) := ⟨fun _ _ r => r.far hD k⟩
theorem Later.trans (a : Later K H m f H1 m1 f1) (b : Later K H1 m1 f1 H2 m2 f2) : Later K H m f H2 m2 f2 := ⟨fun w v r => b.rep w v (a.rep w v r)⟩
theorem Later.reps (l : Later K H m f H1 m1 f1) : ∀ {ws : List W} {vs : List V}, Reps K H m f ws vs → Reps K H1 m1 f1 ws vs
  | _, _, .nil => .nil
  | _, _, .cons r t => .cons (l.rep _ _ r) (Later.reps l t)
theorem Later.env (l : Later K H m f H1 m1 f1) {ρ : ME} {σ : LS} (e : EnvR K H m f ρ σ) : EnvR K H1 m1 f1 ρ σ := ⟨e.1, fun i w h => by
  obtain ⟨v, h1, h2⟩ := e.2 i w h
  exact ⟨v, h1, l.rep _ _ h2⟩⟩
end
/-- J walks the items xs, whatever happens to the cells -/
def LiveI (K : PySem.W.Frag) (xs : List W) (J : It) (H : Hp) (m f : List Addr) : Prop := ∀ H1 m1 f1 cs1, Later K H m f H1 m1 f1 → Cells K H1 m1 f1 cs1 →
  (∀ i, i < xs.length → J.go i H1) ∧ J.stop xs.length H1 ∧ ∀ i v H2, i < xs.length → J.yld i H1 v H2 → Keep H1 H2 m1 m1 ∧ Cells K H2 m1 f1 cs1 ∧ ∃ w, xs[i]? = some w ∧ Rep K H2 m1 f1 w v
def Live (K : PySem.W.Frag) (s : Mi.Src) (J : It) (H : Hp) (m f : List Addr) : Prop :=
  match s with
  | .im xs => LiveI K xs J H m f
  | .ce n _ => ∃ a, m[n]? = some a ∧ J = Itl K a
section
variable {K : PySem.W.Frag} {H H1 : Hp} {m m1 f f1 : List Addr} {xs ys : List W} {vs : List V} {a b : Addr}
/-- the sequence at a stands -/
def Has (S : Hp → Addr → List V → Prop) (K : PySem.W.Frag) (a : Addr) (xs : List W) (H : Hp) (m f : List Addr) : Prop := ∀ H1 m1 f1, Later K H m f H1 m1 f1 → ∃ vs, S H1 a vs ∧ Reps K H1 m1 f1 xs vs
theorem has_tup {w : W} {xs : List W} {v : V} (r : Rep K H m f (Mi.fz w) v) (e : Mi.stillW w = some (true, xs)) : ∃ a, v = .ref a ∧ Has (SqT K) K a xs H m f := by
  cases w <;> first | (cases e; done) | skip
  simp only [Mi.stillW] at e
  cases e
  obtain ⟨a, vs, rfl, _, _⟩ := SqT.ofRep (show Rep K H m f (.tup _) v from r)
  refine ⟨a, rfl, fun H1 m1 f1 l => ?_⟩
  obtain ⟨a', vs', e, h1, h2⟩ := SqT.ofRep (l.rep _ _ (show Rep K H m f (.tup _) _ from r))
  cases e
  exact ⟨vs', h1, h2⟩
theorem sq_lst (r : Rep K H m f (.lst xs) (.ref a)) : ∃ vs, SqL K H a vs ∧ Reps K H m f xs vs := by
  cases r with
  | lst h1 h2 h3 h4 => exact ⟨_, .inl (.inl h1), h4⟩
theorem sq_scr (r : Rep K H m f (.scr xs) (.ref a)) : ∃ vs, SqL K H a vs ∧ Reps K H m f xs vs := by
  cases r with
  | scr h1 h2 h3 h4 => exact ⟨_, .inl h1, h4⟩
  | kscr h1 h2 => exact ⟨_, .inr h1, h2⟩
theorem has_lst {w : W} {xs : List W} {v : V} (r : Rep K H m f (Mi.fz w) v) (e : Mi.stillW w = some (false, xs)) : ∃ a, v = .ref a ∧ Has (SqL K) K a xs H m f := by
  have lst : ∀ {ys : List W}, Rep K H m f (.lst ys) v → ys = xs → ∃ a, v = .ref a ∧ Has (SqL K) K a xs H m f := fun {ys} r e => by
    subst e
    cases r with
    | lst h1 h2 h3 h4 => exact ⟨_, rfl, fun H1 m1 f1 l => sq_lst (l.rep _ _ (.lst h1 h2 h3 h4))⟩
  cases w <;> first | (cases e; done) | skip
  · simp only [Mi.stillW] at e
    cases e
    exact lst r rfl
  · simp only [Mi.stillW] at e
    cases e
    exact lst r rfl
  · simp only [Mi.stillW] at e
    cases e
    have r' : Rep K H m f (.scr xs) v := r
    cases r' with
    | scr h1 h2 h3 h4 => exact ⟨_, rfl, fun H1 m1 f1 l => sq_scr (l.rep _ _ (.scr h1 h2 h3 h4))⟩
    | kscr h1 h2 => exact ⟨_, rfl, fun H1 m1 f1 l => sq_scr (l.rep _ _ (.kscr h1 h2))⟩
/-- items in order, the heap as it was -/
theorem live_same {S : Hp → Addr → List V → Prop} (h : Has S K a xs H m f) {J : It} (hgo : ∀ i H vs x, S H a vs → vs[i]? = some x → J.go i H) (hst : ∀ H vs, S H a vs → J.stop vs.length H) (hy : ∀ i H v H' vs, S H a vs → J.yld i H v H' → H' = H ∧ vs[i]? = some v) : LiveI K xs J H m f := by
  intro H1 m1 f1 cs1 l c
  obtain ⟨vs, s1, r1⟩ := h H1 m1 f1 l
  have hl := r1.length
  refine ⟨fun i hi => ?_, by rw [hl]; exact hst H1 vs s1, fun i v H2 hi y => ?_⟩
  · obtain ⟨v, e, _⟩ := r1.get (List.getElem?_eq_getElem hi)
    exact hgo i H1 vs v s1 e
  · obtain ⟨e, g⟩ := hy i H1 v H2 vs s1 y
    subst e
    obtain ⟨w, g1, g2⟩ := r1.getV g
    exact ⟨Keep.refl, c, w, g1, g2⟩
theorem live_list (h : Has (SqL K) K a xs H m f) : LiveI K xs (Itl K a) H m f := live_same h (fun i H vs x s e => ⟨vs, x, s, e⟩) (fun H vs s => ⟨vs, s, Nat.le_refl _⟩) fun i H v H' vs s y => ⟨y.1, y.2 vs s⟩
theorem live_tup (h : Has (SqT K) K a xs H m f) : LiveI K xs (Itt K a) H m f := live_same h (fun i H vs x s e => ⟨vs, x, s, e⟩) (fun H vs s => ⟨vs, s, Nat.le_refl _⟩) fun i H v H' vs s y => ⟨y.1, y.2 vs s⟩
theorem live_rev {S : Hp → Addr → List V → Prop} (h : Has S K a xs H m f) {J : It} (hgo : ∀ i H vs x, S H a vs → vs.length = xs.length → vs[vs.length - 1 - i]? = some x → i < vs.length → J.go i H) (hst : ∀ H, J.stop xs.length H) (hy : ∀ i H v H' vs, S H a vs → vs.length = xs.length → J.yld i H v H' → H' = H ∧ vs[vs.length - 1 - i]? = some v) : LiveI K xs.reverse J H m f := by
  intro H1 m1 f1 cs1 l c
  obtain ⟨vs, s1, r1⟩ := h H1 m1 f1 l
  have hl := r1.length
  rw [List.length_reverse]
  refine ⟨fun i hi => ?_, hst H1, fun i v H2 hi y => ?_⟩
  · have hj : vs.length - 1 - i < vs.length := by omega
    exact hgo i H1 vs _ s1 hl.symm (List.getElem?_eq_getElem hj) (by omega)
  · obtain ⟨e, g⟩ := hy i H1 v H2 vs s1 hl.symm y
    subst e
    obtain ⟨w, g1, g2⟩ := r1.getV g
    refine ⟨Keep.refl, c, w, ?_, g2⟩
    rw [List.getElem?_reverse hi, ← g1, hl]
theorem live_revL (h : Has (SqL K) K a xs H m f) {n : Nat} (hn : n = xs.length) : LiveI K xs.reverse (Itv K a n) H m f := by
  subst hn
  refine live_rev h (fun i H vs x s hl e hi => ⟨by omega, vs, x, s, by rw [← hl]; exact e⟩) (fun H => Nat.le_refl _) fun i H v H' vs s hl y => ⟨y.1, by rw [hl]; exact y.2 vs s⟩
theorem live_revT (h : Has (SqT K) K a xs H m f) {n : Nat} (hn : n = xs.length) : LiveI K xs.reverse (RT.ItvT K a n) H m f := by
  subst hn
  refine live_rev h (fun i H vs x s hl e hi => ⟨by omega, vs, x, s, by rw [← hl]; exact e⟩) (fun H => Nat.le_refl _) fun i H v H' vs s hl y => ⟨y.1, by rw [hl]; exact y.2 vs s⟩
theorem enumW_len : ∀ (xs : List W) (k : Nat), (Mi.enumW k xs).length = xs.length
  | [], _ => rfl
  | _ :: xs, k => congrArg (· + 1) (enumW_len xs (k + 1))
theorem enumW_get : ∀ (xs : List W) (k i : Nat) (w : W), xs[i]? = some w → (Mi.enumW k xs)[i]? = some (.tup [.int ((k + i : Nat) : Int), w])
  | [], _, _, _, h => by simp at h
  | x :: xs, k, 0, w, h => by
    simp at h
    subst h
    rfl
  | x :: xs, k, i + 1, w, h => by
    have q := enumW_get xs (k + 1) i w (by simpa using h)
    have e : k + 1 + i = k + (i + 1) := by omega
    rw [e] at q
    simpa [Mi.enumW] using q
theorem live_enum {S : Hp → Addr → List V → Prop} (h : Has S K a xs H m f) {J : It} (hgo : ∀ i H vs x, S H a vs → vs[i]? = some x → J.go i H) (hst : ∀ H vs, S H a vs → J.stop vs.length H)
    (hy : ∀ i H v H' vs, S H a vs → J.yld i H v H' → ∃ T x, v = .ref T ∧ H T = none ∧ H' = upd H T (.tup [.int (i : Nat), x]) ∧ vs[i]? = some x) : LiveI K (Mi.enumW 0 xs) J H m f := by
  intro H1 m1 f1 cs1 l c
  obtain ⟨vs, s1, r1⟩ := h H1 m1 f1 l
  have hl := r1.length
  rw [enumW_len]
  refine ⟨fun i hi => ?_, by rw [hl]; exact hst H1 vs s1, fun i v H2 hi y => ?_⟩
  · obtain ⟨v, e, _⟩ := r1.get (List.getElem?_eq_getElem hi)
    exact hgo i H1 vs v s1 e
  · obtain ⟨T, x, e, hT, e2, g⟩ := hy i H1 v H2 vs s1 y
    subst e e2
    obtain ⟨w, g1, g2⟩ := r1.getV g
    refine ⟨Keep.new hT, c.laid hT, _, enumW_get xs 0 i w g1, ?_⟩
    rw [Nat.zero_add]
    exact rep_tup c hT (.cons (.int _) (.cons g2 .nil))
theorem live_enumL (h : Has (SqL K) K a xs H m f) : LiveI K (Mi.enumW 0 xs) (Ite K a) H m f := live_enum h (fun i H vs x s e => ⟨vs, x, s, e⟩) (fun H vs s => ⟨vs, s, Nat.le_refl _⟩) fun i H v H' vs s y => by
  obtain ⟨T, x, h1, h2, h3, h4⟩ := y
  exact ⟨T, x, h1, h2, h3, h4 vs s⟩
theorem live_enumT (h : Has (SqT K) K a xs H m f) : LiveI K (Mi.enumW 0 xs) (IteT K a) H m f := live_enum h (fun i H vs x s e => ⟨vs, x, s, e⟩) (fun H vs s => ⟨vs, s, rfl⟩) fun i H v H' vs s y => by
  obtain ⟨T, x, h1, h2, h3, h4⟩ := y
  exact ⟨T, x, h1, h2, h3, h4 vs s⟩
theorem zipW_len : ∀ (xs ys : List W), (Mi.zipW xs ys).length = min xs.length ys.length
  | [], _ => by simp [Mi.zipW]
  | _ :: _, [] => by simp [Mi.zipW]
  | _ :: xs, _ :: ys => by
    have := zipW_len xs ys
    simp only [Mi.zipW, List.length_cons]
    omega
theorem zipW_get : ∀ (xs ys : List W) (i : Nat) (w u : W), xs[i]? = some w → ys[i]? = some u → (Mi.zipW xs ys)[i]? = some (.tup [w, u])
  | [], _, _, _, _, h, _ => by simp at h
  | _ :: _, [], _, _, _, _, h => by simp at h
  | x :: xs, y :: ys, 0, w, u, h, h' => by
    simp at h h'
    subst h h'
    rfl
  | x :: xs, y :: ys, i + 1, w, u, h, h' => by
    simpa [Mi.zipW] using zipW_get xs ys i w u (by simpa using h) (by simpa using h')
theorem live_zip {S : Hp → Addr → List V → Prop} (h : Has S K a xs H m f) (h' : Has S K b ys H m f) {J : It} (hgo : ∀ i H vs us x y, S H a vs → S H b us → vs[i]? = some x → us[i]? = some y → J.go i H) (hst : ∀ H vs us, S H a vs → S H b us → J.stop (min vs.length us.length) H)
    (hy : ∀ i H v H' vs us, S H a vs → S H b us → J.yld i H v H' → ∃ T x y, v = .ref T ∧ H T = none ∧ H' = upd H T (.tup [x, y]) ∧ vs[i]? = some x ∧ us[i]? = some y) : LiveI K (Mi.zipW xs ys) J H m f := by
  intro H1 m1 f1 cs1 l c
  obtain ⟨vs, s1, r1⟩ := h H1 m1 f1 l
  obtain ⟨us, s2, r2⟩ := h' H1 m1 f1 l
  have hl := r1.length
  have hl2 := r2.length
  rw [zipW_len]
  refine ⟨fun i hi => ?_, by rw [hl, hl2]; exact hst H1 vs us s1 s2, fun i v H2 hi y => ?_⟩
  · obtain ⟨v, e, _⟩ := r1.get (List.getElem?_eq_getElem (show i < xs.length by omega))
    obtain ⟨u, e', _⟩ := r2.get (List.getElem?_eq_getElem (show i < ys.length by omega))
    exact hgo i H1 vs us v u s1 s2 e e'
  · obtain ⟨T, x, z, e, hT, e2, g, g'⟩ := hy i H1 v H2 vs us s1 s2 y
    subst e e2
    obtain ⟨w, g1, g2⟩ := r1.getV g
    obtain ⟨u, g3, g4⟩ := r2.getV g'
    exact ⟨Keep.new hT, c.laid hT, _, zipW_get xs ys i w u g1 g3, rep_tup c hT (.cons g2 (.cons g4 .nil))⟩
theorem live_zipL (h : Has (SqL K) K a xs H m f) (h' : Has (SqL K) K b ys H m f) : LiveI K (Mi.zipW xs ys) (Itz K a b) H m f :=
  live_zip h h' (fun i H vs us x y s s' e e' => ⟨vs, us, x, y, s, s', e, e'⟩) (fun H vs us s s' => ⟨vs, us, s, s', by omega⟩) fun i H v H' vs us s s' y => by
    obtain ⟨T, x, z, h1, h2, h3, h4, h5⟩ := y
    exact ⟨T, x, z, h1, h2, h3, h4 vs s, h5 us s'⟩
theorem live_zipT (h : Has (SqT K) K a xs H m f) (h' : Has (SqT K) K b ys H m f) : LiveI K (Mi.zipW xs ys) (RZ.ItzT K a b) H m f :=
  live_zip h h' (fun i H vs us x y s s' e e' => ⟨vs, us, x, y, s, s', e, e'⟩) (fun H vs us s s' => ⟨vs, us, s, s', by omega⟩) fun i H v H' vs us s s' y => by
    obtain ⟨T, x, z, h1, h2, h3, h4, h5⟩ := y
    exact ⟨T, x, z, h1, h2, h3, h4 vs s, h5 us s'⟩
theorem live_range (lo : Int) (n : Nat) : LiveI K (Mi.rangeI lo n) (Itr lo n) H m f := by
  intro H1 m1 f1 cs1 l c
  have hl : (Mi.rangeI lo n).length = n := by simp [Mi.rangeI]
  rw [hl]
  refine ⟨fun i hi => hi, Nat.le_refl _, fun i v H2 hi y => ?_⟩
  obtain ⟨e, e2⟩ := y
  subst e e2
  exact ⟨Keep.refl, c, .int (lo + (i : Int)), by simp [Mi.rangeI, hi], .int _⟩
end
/-- the reading of what is walked -/
def tI (O : Orc) (K : PySem.W.Frag) (CA : Nat → Addr) (Wx : WX) (it : Mi.It) : TI := fun σ H J => ∃ (ρ : ME) (cs : List Ob) (m f : List Addr), EnvR K H m f ρ σ ∧ Cells K H m f cs ∧
  Rw (Zs K CA (fun cls d H => Wx cls d σ H) H m f) (Mi.evI O ρ it cs) (fun s cs' => ∀ j H' m', Keep H H' m m' → Cells K H' m' f cs' → Live K s j H' m' f → J j H')
theorem piImp {X : Cx} {tg e : Expr} {t t' : TI} (h : PI X tg e t) (i : ∀ σ H Q, t' σ H Q → t σ H Q) : PI X tg e t' := ⟨fun pins s σ H Q I hw => h.run pins s σ H Q I (i σ H Q hw)⟩
/-- a list or a tuple -/
def iSeq (K : PySem.W.Frag) (tl : TE) : TI := fun σ H J => tl σ H fun x H1 => ∃ a, x = .ref a ∧ (((∃ xs, SqL K H1 a xs) ∧ J (Itl K a) H1) ∨ ((∃ xs, SqT K H1 a xs) ∧ J (Itt K a) H1))
section
variable {X : Cx} {O : Orc} {CA : Nat → Addr} {Wx : WX} {a b c e tg : Expr} {ea eb ec : Mi.Ex} {pos : Pos}
theorem pi_seq {tl : TE} (hl : PE X e tl) : PI X tg e (iSeq X.K tl) := by
  refine ⟨fun pins s σ H R I h => thn (hl.run pins s σ H _ I h) fun v s1 ⟨x, H1, I1, r1, a, ex, q⟩ => ?_⟩
  subst ex
  cases r1
  rcases q with ⟨⟨xs, hs⟩, q⟩ | ⟨⟨xs, hs⟩, q⟩
  · obtain ⟨its, rv, p, hz⟩ := I1.list hs
    exact wpAny_pyIter_list p.isList (pi_one (tk := s1.toks) I1 _ (turn_list a _) ⟨_, Heap.get?_push_size _ rfl, rfl, rfl⟩ q)
  · obtain ⟨its, rv, p, hz⟩ := I1.tuple hs
    exact wpAny_pyIter_tuple (show s1.heap.IsTuple a its.toArray from p) (pi_one (tk := s1.toks) I1 _ (turn_tuple a _) ⟨_, Heap.get?_push_size _ rfl, rfl, rfl⟩ q)
theorem Has.here {S : Hp → Addr → List V → Prop} {K : PySem.W.Frag} {a : Addr} {xs : List W} {H : Hp} {m f : List Addr} (h : Has S K a xs H m f) : ∃ vs, S H a vs ∧ Reps K H m f xs vs := h H m f ⟨fun _ _ r => r⟩
theorem ti_ex (ha : PE X e (tE O X.K CA Wx ea)) : PI X tg e (tI O X.K CA Wx (.ex ea)) := piImp (pi_seq ha) fun σ H J ⟨ρ, cs, m, f, env, c, h⟩ => by
  unfold Mi.evI at h
  refine tE_then env c h fun w cs1 v H1 m1 k1 o1 env1 h1 => ?_
  obtain ⟨s, es, q⟩ := h1.ofO
  have still : ∀ (t : Bool) (xs : List W), Mi.stillW w = some (t, xs) → s = .im xs → ∃ a, v = .ref a ∧ (((∃ xs, SqL X.K H1 a xs) ∧ J (Itl X.K a) H1) ∨ ((∃ xs, SqT X.K H1 a xs) ∧ J (Itt X.K a) H1)) := fun t xs e1 e2 => by
    subst e2
    cases t with
    | true =>
      obtain ⟨a, e, hh⟩ := has_tup o1.rep e1
      obtain ⟨vs, s1, _⟩ := hh.here
      exact ⟨a, e, .inr ⟨⟨vs, s1⟩, q _ H1 m1 k1 o1.cells (live_tup hh)⟩⟩
    | false =>
      obtain ⟨a, e, hh⟩ := has_lst o1.rep e1
      obtain ⟨vs, s1, _⟩ := hh.here
      exact ⟨a, e, .inl ⟨⟨vs, s1⟩, q _ H1 m1 k1 o1.cells (live_list hh)⟩⟩
  cases w <;> first | (cases es; done) | (cases es; exact still _ _ rfl rfl) | skip
  rename_i n
  simp only [Mi.srcOf, Option.map_eq_some_iff] at es
  obtain ⟨xs, ex, e2⟩ := es
  subst e2
  cases o1 with
  | old r c1 =>
    cases r with
    | @ref n a hm =>
      obtain ⟨vs, g1, g2⟩ := c1.lst hm ex
      exact ⟨a, rfl, .inl ⟨⟨vs, .of g1⟩, q _ H1 m1 k1 c1 ⟨a, hm, rfl⟩⟩⟩
theorem rangeW_some {x y : W} {xs : List W} (h : Mi.rangeW x y = some xs) : ∃ a b : Int, x = .int a ∧ y = .int b ∧ (-(2 ^ 62) ≤ a ∧ a < 2 ^ 62 ∧ -(2 ^ 62) ≤ b ∧ b < 2 ^ 62) ∧ (b - a).toNat ≤ 2 ^ 24 ∧ xs = Mi.rangeI a (b - a).toNat := by
  cases x <;> first | (cases h; done) | skip
  cases y <;> first | (cases h; done) | skip
  rename_i a b
  simp only [Mi.rangeW] at h
  split at h
  · rename_i hb
    cases h
    simp only [Mi.okR, Bool.and_eq_true, decide_eq_true_eq] at hb
    exact ⟨a, b, rfl, rfl, by omega, by omega, rfl⟩
  · cases h
theorem ti_range {p : Pos} (hg : Gl X "range") (hm : X.mg "range" = none) (ha : PE X a (tE O X.K CA Wx ea)) (hs : starEach [a] X.env = (false, eval a X.env) :: starEach [] X.env) : PI X tg (.Call (.Name "range" p) [a] [] pos) (tI O X.K CA Wx (.range ea)) :=
  piImp (pi_range1 hg hm (pa_cons ha pa_nil hs) hs) fun σ H J ⟨ρ, cs, m, f, env, c, h⟩ => by
    unfold Mi.evI at h
    refine tE_then env c h fun w cs1 v H1 m1 k1 o1 env1 h1 => ?_
    split at h1
    · rename_i xs e
      obtain ⟨lo, j, e0, rfl, b, _, rfl⟩ := rangeW_some e
      cases e0
      cases o1 with
      | old r c1 =>
        cases r
        refine ⟨j, rfl, b.2.2.1, b.2.2.2, ?_⟩
        have q := h1 (Itr 0 (j - 0).toNat) H1 m1 k1 c1 (live_range 0 _)
        rw [Int.sub_zero] at q
        exact q
    · exact h1.elim
theorem ti_range2 {p : Pos} (hg : Gl X "range") (hm : X.mg "range" = none) (ha : PE X a (tE O X.K CA Wx ea)) (hb : PE X b (tE O X.K CA Wx eb)) (hs : starEach [a, b] X.env = (false, eval a X.env) :: starEach [b] X.env) (hs2 : starEach [b] X.env = (false, eval b X.env) :: starEach [] X.env) :
    PI X tg (.Call (.Name "range" p) [a, b] [] pos) (tI O X.K CA Wx (.range2 ea eb)) :=
  piImp (pi_range2 hg hm (pa_cons ha (pa_cons hb pa_nil hs2) hs) (by rw [hs, hs2]; rfl) hs2) fun σ H J ⟨ρ, cs, m, f, env, c, h⟩ => by
    unfold Mi.evI at h
    refine tE_then env c h fun w cs1 v H1 m1 k1 o1 env1 h1 => ?_
    refine tE_then env1 o1.cells h1 fun w2 cs2 v2 H2 m2 k2 o2 env2 h2 => ?_
    split at h2
    · rename_i xs e
      obtain ⟨i, j, rfl, rfl, b, _, rfl⟩ := rangeW_some e
      cases o2 with
      | old r2 c2 =>
        cases r2
        cases o1 with
        | old r c1 =>
          cases r
          exact ⟨i, j, rfl, b, h2 (Itr i (j - i).toNat) H2 m2 (k1.trans k2) c2 (live_range i _)⟩
    · exact h2.elim
theorem ti_rev {p : Pos} (hg : Gl X "reversed") (hm : X.mg "reversed" = none) (ha : PE X a (tE O X.K CA Wx ea)) (hs : starEach [a] X.env = (false, eval a X.env) :: starEach [] X.env) : PI X tg (.Call (.Name "reversed" p) [a] [] pos) (tI O X.K CA Wx (.rev ea)) :=
  piImp (RT.pi_revA hg hm ha hs) fun σ H J ⟨ρ, cs, m, f, env, c, h⟩ => by
    unfold Mi.evI at h
    refine tE_then env c h fun w cs1 v H1 m1 k1 o1 env1 h1 => ?_
    split at h1
    · rename_i t xs e
      cases t with
      | true =>
        obtain ⟨a, ev, hh⟩ := has_tup o1.rep e
        obtain ⟨vs, s1, r1⟩ := hh.here
        exact ⟨a, vs, ev, .inr ⟨s1, h1 _ H1 m1 k1 o1.cells (live_revT hh r1.length.symm)⟩⟩
      | false =>
        obtain ⟨a, ev, hh⟩ := has_lst o1.rep e
        obtain ⟨vs, s1, r1⟩ := hh.here
        exact ⟨a, vs, ev, .inl ⟨s1, h1 _ H1 m1 k1 o1.cells (live_revL hh r1.length.symm)⟩⟩
    · exact h1.elim
theorem ti_enum {p tpos : Pos} {elts : List Expr} {kk : Nat} (hg : Gl X "enumerate") (hm : X.mg "enumerate" = none) (ha : PE X a (tE O X.K CA Wx ea)) (hs : starEach [a] X.env = (false, eval a X.env) :: starEach [] X.env) : PI X (.Tuple elts kk tpos) (.Call (.Name "enumerate" p) [a] [] pos) (tI O X.K CA Wx (.enum ea)) :=
  piImp (pi_enumA hg hm (pa_cons ha pa_nil hs) hs) fun σ H J ⟨ρ, cs, m, f, env, c, h⟩ => by
    unfold Mi.evI at h
    refine tE_then env c h fun w cs1 v H1 m1 k1 o1 env1 h1 => ?_
    split at h1
    · rename_i t xs e
      cases t with
      | true =>
        obtain ⟨a, ev, hh⟩ := has_tup o1.rep e
        obtain ⟨vs, s1, r1⟩ := hh.here
        exact ⟨a, vs, by rw [ev], .inr ⟨s1, h1 _ H1 m1 k1 o1.cells (live_enumT hh)⟩⟩
      | false =>
        obtain ⟨a, ev, hh⟩ := has_lst o1.rep e
        obtain ⟨vs, s1, r1⟩ := hh.here
        exact ⟨a, vs, by rw [ev], .inl ⟨s1, h1 _ H1 m1 k1 o1.cells (live_enumL hh)⟩⟩
    · exact h1.elim
theorem ti_zip {p tpos : Pos} {elts : List Expr} {kk : Nat} (hg : Gl X "zip") (hm : X.mg "zip" = none) (ha : PE X a (tE O X.K CA Wx ea)) (hb : PE X b (tE O X.K CA Wx eb)) (hs : starEach [a, b] X.env = (false, eval a X.env) :: starEach [b] X.env) (hs2 : starEach [b] X.env = (false, eval b X.env) :: starEach [] X.env) :
    PI X (.Tuple elts kk tpos) (.Call (.Name "zip" p) [a, b] [] pos) (tI O X.K CA Wx (.zip ea eb)) :=
  piImp (RZ.pi_zipA hg hm (pa_cons ha (pa_cons hb pa_nil hs2) hs) hs (by rw [hs2]; rfl)) fun σ H J ⟨ρ, cs, m, f, env, c, h⟩ => by
    unfold Mi.evI at h
    refine tE_then env c h fun w cs1 v H1 m1 k1 o1 env1 h1 => ?_
    refine tE_then env1 o1.cells h1 fun w2 cs2 v2 H2 m2 k2 o2 env2 h2 => ?_
    split at h2
    · rename_i t xs t' ys e e'
      split at h2
      · rename_i ht
        subst ht
        cases t with
        | true =>
          obtain ⟨a, ev, hh⟩ := has_tup (o1.rep.mono k2) (by cases w <;> first | exact e | cases e)
          obtain ⟨b, ev2, hh2⟩ := has_tup o2.rep e'
          obtain ⟨vs, s1, r1⟩ := hh.here
          obtain ⟨us, s2, r2⟩ := hh2.here
          exact ⟨a, b, vs, us, by rw [ev, ev2], .inr ⟨s1, s2, h2 _ H2 m2 (k1.trans k2) o2.cells (live_zipT hh hh2)⟩⟩
        | false =>
          obtain ⟨a, ev, hh⟩ := has_lst (o1.rep.mono k2) (by cases w <;> first | exact e | cases e)
          obtain ⟨b, ev2, hh2⟩ := has_lst o2.rep e'
          obtain ⟨vs, s1, r1⟩ := hh.here
          obtain ⟨us, s2, r2⟩ := hh2.here
          exact ⟨a, b, vs, us, by rw [ev, ev2], .inl ⟨s1, s2, h2 _ H2 m2 (k1.trans k2) o2.cells (live_zipL hh hh2)⟩⟩
      · exact h2.elim
    · exact h2.elim
theorem Reps.rangeI {K : PySem.W.Frag} {H : Hp} {m f : List Addr} (lo : Int) : ∀ n : Nat, Reps K H m f (Mi.rangeI lo n) ((List.range n).map fun i => V.int (lo + (i : Nat)))
  | 0 => .nil
  | n + 1 => by
    unfold Mi.rangeI
    rw [List.range_succ, List.map_append, List.map_append]
    exact (Reps.rangeI lo n).append (.cons (.int _) .nil)
theorem te_listI {p p2 pos2 : Pos} (hc : X.calm = true) (hg : Gl X "list") (hm : X.mg "list" = none) (hg2 : Gl X "range") (hm2 : X.mg "range" = none) (ha : PE X a (tE O X.K CA Wx ea)) (hb : PE X b (tE O X.K CA Wx eb)) (hs : starEach [a, b] X.env = (false, eval a X.env) :: starEach [b] X.env) (hs2 : starEach [b] X.env = (false, eval b X.env) :: starEach [] X.env) :
    PE X (.Call (.Name "list" p) [.Call (.Name "range" p2) [a, b] [] pos2] [] pos) (tE O X.K CA Wx (.listI ea eb)) :=
  peImp (pe_listRg hc hg hm (prg_2 hg2 hm2 ha hb hs hs2 (by rw [hs2]; rfl)) rfl) fun σ H Q ⟨ρ, cs, m, f, env, c, h⟩ => by
    rw [Mi.ev] at h
    refine tE_then env c h fun w cs1 v H1 m1 k1 o1 env1 h1 => ?_
    refine tE_then env1 o1.cells h1 fun w2 cs2 v2 H2 m2 k2 o2 env2 h2 => ?_
    split at h2
    · rename_i xs e
      obtain ⟨i, j, rfl, rfl, b, b', rfl⟩ := rangeW_some e
      cases o2 with
      | old r2 c2 =>
        cases r2
        cases o1 with
        | old r c1 =>
          cases r
          refine ⟨i, j, rfl, rfl, ⟨b.1, b.2.1, b.2.2.1, b.2.2.2, b'⟩, fun q hq => h2 _ _ m2 ((k1.trans k2).trans (Keep.new hq)) ((out_new c2 hq (Reps.rangeI i _)).back (k1.trans k2))⟩
    · exact h2.elim
theorem te_listJ {p p2 pos2 : Pos} (hc : X.calm = true) (hg : Gl X "list") (hm : X.mg "list" = none) (hg2 : Gl X "range") (hm2 : X.mg "range" = none) (ha : PE X a (tE O X.K CA Wx ea)) (hs : starEach [a] X.env = (false, eval a X.env) :: starEach [] X.env) :
    PE X (.Call (.Name "list" p) [.Call (.Name "range" p2) [a] [] pos2] [] pos) (tE O X.K CA Wx (.listJ ea)) :=
  peImp (pe_listRg hc hg hm (prg_1 hg2 hm2 ha hs) rfl) fun σ H Q ⟨ρ, cs, m, f, env, c, h⟩ => by
    rw [Mi.ev] at h
    refine tE_then env c h fun w cs1 v H1 m1 k1 o1 env1 h1 => ?_
    split at h1
    · rename_i xs e
      obtain ⟨i, j, e0, rfl, b, b', rfl⟩ := rangeW_some e
      cases e0
      cases o1 with
      | old r c1 =>
        cases r
        exact ⟨j, rfl, ⟨b.1, b.2.1, b.2.2.1, b.2.2.2, b'⟩, fun q hq => h1 _ _ m1 (k1.trans (Keep.new hq)) ((out_new c1 hq (Reps.rangeI 0 _)).back k1)⟩
    · exact h1.elim
end
/-! ### what is stored to -/
def gNs : List Nat → TGs
  | [] => gNil
  | i :: is => gCons (gName i) (gNs is)
def gM (K : PySem.W.Frag) : Mi.Tg → TG
  | .nm i => gName i
  | .tp is => gTup K is.length (gNs is)
def tgIx : Mi.Tg → List Nat
  | .nm i => [i]
  | .tp is => is
/-- the slots that are not in wr are as they were -/
def Agree (wr : List Nat) (σ σ' : LS) : Prop := σ.length = σ'.length ∧ ∀ i, i ∉ wr → σ'[i]? = σ[i]?
theorem Agree.refl {wr : List Nat} {σ : LS} : Agree wr σ σ := ⟨rfl, fun _ _ => rfl⟩
theorem Agree.trans {wr : List Nat} {σ σ1 σ2 : LS} (a : Agree wr σ σ1) (b : Agree wr σ1 σ2) : Agree wr σ σ2 := ⟨a.1.trans b.1, fun i h => (b.2 i h).trans (a.2 i h)⟩
theorem Agree.set {wr : List Nat} {σ σ1 : LS} {i : Nat} {v : Option V} (a : Agree wr σ σ1) (h : i ∈ wr) : Agree wr σ (σ1.set i v) := ⟨by rw [List.length_set]; exact a.1, fun j hj => by
  rw [List.getElem?_set_ne (fun (z : i = j) => hj (by rw [← z]; exact h))]
  exact a.2 j hj⟩
theorem wipe_in {σ : LS} : ∀ {vs : List Nat} {i : Nat}, i ∈ vs → i < σ.length → (L2.wipe σ vs)[i]? = some none
  | j :: vs, i, h, hl => by
    show ((L2.wipe σ vs).set j none)[i]? = some none
    by_cases e : j = i
    · subst e
      exact List.getElem?_set_self (by rw [L2.wipe_length]; exact hl)
    · rw [List.getElem?_set_ne e]
      exact wipe_in ((List.mem_cons.mp h).resolve_left (Ne.symm e)) hl
theorem wipe_agree {wr : List Nat} {σ σ' : LS} (a : Agree wr σ σ') : L2.wipe σ' wr = L2.wipe σ wr := by
  apply List.ext_getElem?
  intro i
  by_cases h : i ∈ wr
  · by_cases hl : i < σ.length
    · rw [wipe_in h hl, wipe_in h (by rw [← a.1]; exact hl)]
    · rw [List.getElem?_eq_none (by rw [L2.wipe_length, ← a.1]; omega), List.getElem?_eq_none (by rw [L2.wipe_length]; omega)]
  · rw [wipe_out h, wipe_out h]
    exact a.2 i h
theorem agree_wipe {wr : List Nat} {σ : LS} : Agree wr (L2.wipe σ wr) σ := ⟨L2.wipe_length _ _, fun i h => (wipe_out h).symm⟩
section
variable {K : PySem.W.Frag} {H : Hp} {m f : List Addr} {wr : List Nat} {Q : LS → Hp → Prop}
theorem puts_ok : ∀ {is : List Nat} {ws : List W} {vs : List V} {ρ ρ' : ME} {σ : LS}, (∀ i ∈ is, i ∈ wr) → Mi.putS is ws ρ = some ρ' → Reps K H m f ws vs → EnvR K H m f ρ σ → (∀ σ', EnvR K H m f ρ' σ' → Agree wr σ σ' → Q σ' H) → gNs is vs σ H Q
  | [], [], _, _, _, _, _, e, .nil, env, k => by
    cases e
    exact ⟨rfl, k _ env Agree.refl⟩
  | i :: is, w :: ws, _, _, _, _, hw, e, .cons r rs, env, k => ⟨_, _, rfl, puts_ok (fun j h => hw j (List.mem_cons_of_mem _ h)) e rs (env.set r) fun σ' e' a => k σ' e' ((Agree.refl.set (hw i List.mem_cons_self)).trans a)⟩
  | [], _ :: _, _, _, _, _, _, e, _, _, _ => by cases e
  | _ :: _, [], _, _, _, _, _, e, _, _, _ => by cases e
theorem putS_len : ∀ {is : List Nat} {ws : List W} {ρ ρ' : ME}, Mi.putS is ws ρ = some ρ' → ws.length = is.length
  | [], [], _, _, _ => rfl
  | _ :: is, _ :: ws, _, _, e => congrArg (· + 1) (putS_len (is := is) (ws := ws) e)
  | [], _ :: _, _, _, e => by cases e
  | _ :: _, [], _, _, e => by cases e
theorem put_ok {t : Mi.Tg} {w : W} {v : V} {ρ ρ' : ME} {σ : LS} (hw : ∀ i ∈ tgIx t, i ∈ wr) (e : Mi.put t w ρ = some ρ') (r : Rep K H m f w v) (env : EnvR K H m f ρ σ) (k : ∀ σ', EnvR K H m f ρ' σ' → Agree wr σ σ' → Q σ' H) : gM K t v σ H Q := by
  cases t with
  | nm i =>
    cases e
    exact k _ (env.set r) (Agree.refl.set (hw i List.mem_cons_self))
  | tp is =>
    cases w <;> first | (cases e; done) | skip
    obtain ⟨a, vs, ev, hs, rs⟩ := SqT.ofRep r
    have e' : Mi.putS is _ ρ = some ρ' := e
    exact ⟨a, vs, ev, hs, by rw [← rs.length, putS_len e'], puts_ok hw e' rs env k⟩
end
end So
end S_Its

section S_Comps
set_option Elab.async false
set_option linter.all false
set_option maxRecDepth 100000
set_option maxHeartbeats 4000000
/-! Comps: comprehensions. -/
namespace So
open PySem PySem.Spec PyProof.Rows L2
open Mi (W Ob Xn R Orc)
section
variable {K : PySem.W.Frag} {H H1 : Hp} {m m1 f : List Addr} {D : Addr} {o : HO} {cs : List Ob}
theorem rd_write {a : Addr} {u : HO} (h : Rd H a u) (hf : a ∉ D :: f) : Rd (upd H D o) a u := by
  have hn : a ≠ D := fun z => hf (by rw [z]; exact List.mem_cons_self)
  rcases h with h | ⟨x, h⟩
  · exact .inl (by rw [upd_ne hn]; exact h)
  · exact .inr ⟨x, by rw [upd_ne hn]; exact h⟩
theorem at_write {a : Addr} {u : Option HO} (h : H a = u) (hf : a ∉ D :: f) : upd H D o a = u := by
  have hn : a ≠ D := fun z => hf (by rw [z]; exact List.mem_cons_self)
  rw [upd_ne hn]
  exact h
mutual
/-- what is not spoken of is written -/
theorem Rep.write : ∀ {w : W} {v : V}, Rep K H m (D :: f) w v → Rep K (upd H D o) m (D :: f) w v
  | _, _, .non => .non
  | _, _, .bl b => .bl b
  | _, _, .int i => .int i
  | _, _, .str s => .str s
  | _, _, .tup h ha hf hs => .tup (rd_write h hf) ha hf (Reps.write hs)
  | _, _, .ktup h hs => .ktup h (Reps.write hs)
  | _, _, .kscr h hs => .kscr h (Reps.write hs)
  | _, _, .lst h ha hf hs => .lst (at_write h hf) ha hf (Reps.write hs)
  | _, _, .scr h ha hf hs => .scr (rd_write h hf) ha hf (Reps.write hs)
  | _, _, .ref h => .ref h
theorem Reps.write : ∀ {ws : List W} {vs : List V}, Reps K H m (D :: f) ws vs → Reps K (upd H D o) m (D :: f) ws vs
  | _, _, .nil => .nil
  | _, _, .cons h hs => .cons (Rep.write h) (Reps.write hs)
end
theorem Cells.write (c : Cells K H m (D :: f) cs) : Cells K (upd H D o) m (D :: f) cs := by
  refine ⟨c.len, c.nd, fun a ha => ?_, c.fm, fun n a ob h1 h2 => ?_⟩
  · by_cases e : a = D
    · rw [e, upd_same]
      exact fun z => nomatch z
    · rw [upd_ne e]
      exact c.fd a ha
  · have q := c.at_ n a ob h1 h2
    have hn : a ≠ D := fun z => c.fm D List.mem_cons_self (by rw [← z]; exact List.mem_of_getElem? h1)
    cases ob with
    | lst xs =>
      obtain ⟨vs, h3, h4⟩ := q
      exact ⟨vs, by rw [upd_ne hn]; exact h3, h4.write⟩
    | ins x fs => exact q
theorem Keep.write (k : Keep H1 H m1 m) (hD : H1 D = none) : Keep H1 (upd H D o) m1 m := by
  refine ⟨k.ext, fun a u e ha => ?_, fun a e => ?_⟩
  · rw [upd_ne (ne_of_none e hD)]
    exact k.same a u e ha
  · by_cases z : a = D
    · rw [z]
      exact hD
    · rw [upd_ne z] at e
      exact k.dom a e
end
/-- one item of a comprehension -/
def Fc (O : Orc) (ρ : ME) (own : List Nat) (t : Mi.Tg) (c : Mi.OEx) (elt : Mi.Ex) (x : W) (cs : List Ob) : R (Option W) :=
  match Mi.put t (Mi.fz x) (Mi.wipe ρ own) with
  | some ρ' => ((Mi.evC O ρ' c cs).bind fun b cs => if b then (Mi.ev O ρ' elt cs).bind fun y cs => .ok (some (Mi.fz y)) cs else .ok none cs).noX
  | none => .bad
theorem ev_comp {O : Orc} {ρ : ME} {elt : Mi.Ex} {t : Mi.Tg} {it : Mi.It} {c : Mi.OEx} {own : List Nat} {cs : List Ob} : Mi.ev O ρ (.comp elt t it c own) cs = (Mi.evI O ρ it cs).bind fun s cs => (Mi.compS (Fc O ρ own t c elt) s cs).bind fun ys cs => Mi.mkNew ys cs := by
  rw [Mi.ev]
  rfl
/-- of a comprehension's tests -/
def tC (O : Orc) (K : PySem.W.Frag) (CA : Nat → Addr) (Wx : WX) (c : Mi.OEx) : TT := fun σ H Q => ∃ (ρ : ME) (cs : List Ob) (m f : List Addr), EnvR K H m f ρ σ ∧ Cells K H m f cs ∧
  Rw (Zs K CA (fun cls d H => Wx cls d σ H) H m f) (Mi.evC O ρ c cs) (fun b cs' => ∀ H' m', Keep H H' m m' → Cells K H' m' f cs' → Q b H')
/-- nothing may be raised -/
def noW : WX := fun _ _ _ _ => False
theorem Fc_ok {O : Orc} {ρ : ME} {own : List Nat} {t : Mi.Tg} {c : Mi.OEx} {elt : Mi.Ex} {x : W} {cs cs3 : List Ob} {o : Option W} (h : Fc O ρ own t c elt x cs = .ok o cs3) : ∃ ρ' b cs2, Mi.put t (Mi.fz x) (Mi.wipe ρ own) = some ρ' ∧ Mi.evC O ρ' c cs = .ok b cs2 ∧
    ((b = true ∧ ∃ y, Mi.ev O ρ' elt cs2 = .ok y cs3 ∧ o = some (Mi.fz y)) ∨ (b = false ∧ o = none ∧ cs2 = cs3)) := by
  unfold Fc at h
  split at h
  · rename_i ρ' e
    cases e1 : Mi.evC O ρ' c cs with
    | bad =>
      rw [e1] at h
      cases h
    | exn x c1 =>
      rw [e1] at h
      cases h
    | ok b cs2 =>
      rw [e1] at h
      refine ⟨ρ', b, cs2, e, e1, ?_⟩
      cases b with
      | false =>
        have h' : (R.ok (none : Option W) cs2) = .ok o cs3 := h
        cases h'
        exact .inr ⟨rfl, rfl, rfl⟩
      | true =>
        have h' : ((Mi.ev O ρ' elt cs2).bind fun y cs => R.ok (some (Mi.fz y)) cs).noX = .ok o cs3 := h
        cases e2 : Mi.ev O ρ' elt cs2 with
        | bad =>
          rw [e2] at h'
          cases h'
        | exn x c1 =>
          rw [e2] at h'
          cases h'
        | ok y c3 =>
          rw [e2] at h'
          have h2 : R.ok (some (Mi.fz y)) c3 = .ok o cs3 := h'
          cases h2
          exact .inl ⟨rfl, y, rfl, rfl⟩
  · cases h
theorem Fc_nox {O : Orc} {ρ : ME} {own : List Nat} {t : Mi.Tg} {c : Mi.OEx} {elt : Mi.Ex} {x : W} {cs c1 : List Ob} {z : Xn} : Fc O ρ own t c elt x cs ≠ .exn z c1 := by
  unfold Fc
  split
  · generalize ((Mi.evC O _ c cs).bind fun b cs => if b then (Mi.ev O _ elt cs).bind fun y cs => R.ok (some (Mi.fz y)) cs else .ok none cs) = r
    intro h
    cases r <;> cases h
  · intro h
    cases h
theorem bind_ok {α β : Type} {r : R α} {g : α → List Ob → R β} {b : β} {cs : List Ob} (h : r.bind g = .ok b cs) : ∃ a c1, r = .ok a c1 ∧ g a c1 = .ok b cs := by
  cases r with
  | ok a c1 => exact ⟨a, c1, rfl, h⟩
  | exn x c1 => cases h
  | bad => cases h
theorem compGo_nox {F : W → List Ob → R (Option W)} (hF : ∀ x cs z c1, F x cs ≠ .exn z c1) : ∀ (xs : List W) (cs : List Ob) (z : Xn) (c1 : List Ob), Mi.compGo F xs cs ≠ .exn z c1
  | [], cs, z, c1, h => by cases h
  | x :: xs, cs, z, c1, h => by
    unfold Mi.compGo at h
    cases e : F x cs with
    | bad =>
      rw [e] at h
      cases h
    | exn z c1 => exact hF _ _ _ _ e
    | ok o c2 =>
      rw [e] at h
      have h' : ((Mi.compGo F xs c2).bind fun ys cs => R.ok (match o with
        | some y => y :: ys
        | none => ys) cs) = .exn z c1 := h
      cases e2 : Mi.compGo F xs c2 with
      | bad =>
        rw [e2] at h'
        cases h'
      | exn z c3 => exact compGo_nox hF _ _ _ _ e2
      | ok o c3 =>
        rw [e2] at h'
        cases h'
theorem compCe_nox {F : W → List Ob → R (Option W)} (hF : ∀ x cs z c1, F x cs ≠ .exn z c1) (n : Nat) : ∀ (k i : Nat) (cs : List Ob) (z : Xn) (c1 : List Ob), Mi.compCe F n i k cs ≠ .exn z c1
  | 0, i, cs, z, c1, h => by
    unfold Mi.compCe at h
    split at h
    · split at h <;> cases h
    · cases h
  | k + 1, i, cs, z, c1, h => by
    unfold Mi.compCe at h
    split at h
    · split at h
      · rename_i x _
        cases e : F x cs with
        | bad =>
          rw [e] at h
          cases h
        | exn z c1 => exact hF _ _ _ _ e
        | ok o c2 =>
          rw [e] at h
          have h' : ((Mi.compCe F n (i + 1) k c2).bind fun ys cs => R.ok (match o with
            | some y => y :: ys
            | none => ys) cs) = .exn z c1 := h
          cases e2 : Mi.compCe F n (i + 1) k c2 with
          | bad =>
            rw [e2] at h'
            cases h'
          | exn z c3 => exact compCe_nox hF n k _ _ _ _ e2
          | ok o c3 =>
            rw [e2] at h'
            cases h'
      · cases h
    · cases h
section
variable {O : Orc} {K : PySem.W.Frag} {CA : Nat → Addr} {ρ : ME} {σ : LS} {own : List Nat} {t : Mi.Tg} {c : Mi.OEx} {elt : Mi.Ex} {D : Addr} {f : List Addr}
theorem comp_step {H : Hp} {m : List Addr} {cs cs3 : List Ob} {x : W} {v : V} {o : Option W} {acc : List V} {Nx : Hp → Prop} (env : EnvR K H m (D :: f) (Mi.wipe ρ own) (L2.wipe σ own)) (cc : Cells K H m (D :: f) cs) (r : Rep K H m (D :: f) x v) (hD : H D = some (.lst acc))
    (hf : Fc O ρ own t c elt x cs = .ok o cs3) (ht : ∀ i ∈ tgIx t, i ∈ own) (hn : o = none → ∀ H' m', Keep H H' m m' → Cells K H' m' (D :: f) cs3 → H' D = some (.lst acc) → Nx H')
    (hs : ∀ y, o = some y → acc.length < sizeLine ∧ ∀ H' m' u, Keep H H' m m' → Cells K H' m' (D :: f) cs3 → Rep K H' m' (D :: f) y u → H' D = some (.lst acc) → Nx (upd H' D (.lst (acc ++ [u])))) :
    gM K t v (L2.wipe σ own) H fun σ2 H2 => L2.wipe σ2 own = L2.wipe σ own ∧ tC O K CA noW c σ2 H2 fun b H3 => if b = true then tE O K CA noW elt σ2 H3 fun y H4 => ∃ acc, H4 D = some (.lst acc) ∧ acc.length < sizeLine ∧ Nx (upd H4 D (.lst (acc ++ [y]))) else Nx H3 := by
  obtain ⟨ρ', b, cs2, e1, e2, h⟩ := Fc_ok hf
  refine put_ok ht e1 r.fz env fun σ2 env2 ag => ⟨?_, ρ', cs, m, D :: f, env2, cc, ?_⟩
  · rw [wipe_agree ag]
    exact (wipe_agree agree_wipe).symm
  · rw [e2]
    intro H3 m3 k3 c3
    have hD3 : H3 D = some (.lst acc) := k3.same D _ hD (cc.fm D List.mem_cons_self)
    rcases h with ⟨rfl, y, e3, eo⟩ | ⟨rfl, eo, rfl⟩
    · refine iteT ⟨ρ', cs2, m3, D :: f, env2.mono k3, c3, ?_⟩
      rw [e3]
      intro u H4 m4 k4 o4
      obtain ⟨hl, hx⟩ := hs _ eo
      have hD4 : H4 D = some (.lst acc) := k4.same D _ hD3 (c3.fm D List.mem_cons_self)
      exact ⟨acc, hD4, hl, hx H4 m4 u (k3.trans k4) o4.cells o4.rep hD4⟩
    · exact iteF (hn eo H3 m3 k3 c3 hD3)
theorem lc_gen {P : Nat → Nat → List Ob → List W → Prop} {J : It} {H1 : Hp} {m1 : List Addr} {cs1 cs' : List Ob} {yall : List W} {Qd : Hp → Prop} {k0 : Nat} (hD : H1 D = none) (env : EnvR K H1 m1 f ρ σ) (c1 : Cells K H1 m1 f cs1) (ht : ∀ i ∈ tgIx t, i ∈ own)
    (hP : ∀ i k cs ys H m, P i k cs ys → Keep H1 H m1 m → Cells K H m (D :: f) cs → (J.stop i H ∧ ys = [] ∧ cs = cs') ∨ (J.go i H ∧ ∃ x o cs3 ys' k', Fc O ρ own t c elt x cs = .ok o cs3 ∧ k' < k ∧ P (i + 1) k' cs3 ys' ∧ ys = (match o with
      | some y => y :: ys'
      | none => ys') ∧ ∀ v H2, J.yld i H v H2 → Keep H H2 m m ∧ Cells K H2 m (D :: f) cs ∧ Rep K H2 m (D :: f) x v))
    (h0 : P 0 k0 cs1 yall) (hl : yall.length ≤ Mi.lim) (q : ∀ H m acc, Keep H1 H m1 m → H D = some (.lst acc) → Reps K H m (D :: f) yall acc → Cells K H m (D :: f) cs' → Qd H) :
    ∃ Wi : Nat → Nat → Hp → Prop, (∃ m, Wi 0 m (upd H1 D (.lst []))) ∧ ∀ i m H, Wi i m H → (J.stop i H ∧ Qd H) ∨ (J.go i H ∧ ∃ Nx : Hp → Prop, (∀ H', Nx H' → ∃ m', m' < m ∧ Wi (i + 1) m' H') ∧ ∀ x H', J.yld i H x H' → gM K t x (L2.wipe σ own) H' fun σ2 H2 => L2.wipe σ2 own = L2.wipe σ own ∧ tC O K CA noW c σ2 H2 fun b H3 =>
      if b = true then tE O K CA noW elt σ2 H3 fun y H4 => ∃ acc, H4 D = some (.lst acc) ∧ acc.length < sizeLine ∧ Nx (upd H4 D (.lst (acc ++ [y]))) else Nx H3) := by
  refine ⟨fun i k H => ∃ wacc acc m cs ys, Keep H1 H m1 m ∧ H D = some (.lst acc) ∧ Reps K H m (D :: f) wacc acc ∧ Cells K H m (D :: f) cs ∧ P i k cs ys ∧ wacc ++ ys = yall, ⟨k0, [], [], m1, cs1, yall, Keep.new hD, upd_same .., .nil, c1.aside hD, h0, rfl⟩, ?_⟩
  rintro i k H ⟨wacc, acc, m, cs, ys, kp, hDH, ra, cc, hp, ey⟩
  rcases hP i k cs ys H m hp kp cc with ⟨st, e1, e2⟩ | ⟨go, x, o, cs3, ys', k', hF, hk, hp', eys, hy⟩
  · subst e1 e2
    rw [List.append_nil] at ey
    subst ey
    exact .inl ⟨st, q H m acc kp hDH ra cc⟩
  · refine .inr ⟨go, fun H' => ∃ m', m' < k ∧ ∃ wacc acc m cs ys, Keep H1 H' m1 m ∧ H' D = some (.lst acc) ∧ Reps K H' m (D :: f) wacc acc ∧ Cells K H' m (D :: f) cs ∧ P (i + 1) m' cs ys ∧ wacc ++ ys = yall, fun H' h => h, fun v H2 y => ?_⟩
    obtain ⟨k2, c2, r2⟩ := hy v H2 y
    have hD2 : H2 D = some (.lst acc) := k2.same D _ hDH (cc.fm D List.mem_cons_self)
    have kp2 := kp.trans k2
    refine comp_step (CA := CA) ((Later.far hD kp2).env (env.wipe own)) c2 r2 hD2 hF ht (fun eo H' m' k3 c3 hD3 => ?_) fun y eo => ⟨?_, fun H' m' u k3 c3 ru hD3 => ?_⟩
    · subst eo
      simp only at eys
      subst eys
      exact ⟨k', hk, wacc, acc, m', cs3, _, kp2.trans k3, hD3, (ra.mono k2).mono k3, c3, hp', ey⟩
    · subst eo
      simp only at eys
      subst eys
      have e := congrArg List.length ey
      rw [List.length_append, List.length_cons, ra.length] at e
      have := sl_le hl
      omega
    · subst eo
      simp only at eys
      subst eys
      refine ⟨k', hk, wacc ++ [y], acc ++ [u], m', cs3, _, (kp2.trans k3).write hD, upd_same .., (((ra.mono k2).mono k3).append (.cons ru .nil)).write, c3.write, hp', ?_⟩
      rw [List.append_assoc]
      exact ey
/-- the whole walk -/
theorem lc_ok {s : Mi.Src} {J : It} {H1 : Hp} {m1 : List Addr} {cs1 cs' : List Ob} {yall : List W} {Qd : Hp → Prop} (hD : H1 D = none) (env : EnvR K H1 m1 f ρ σ) (c1 : Cells K H1 m1 f cs1) (lv : Live K s J H1 m1 f) (ht : ∀ i ∈ tgIx t, i ∈ own)
    (e : Mi.compS (Fc O ρ own t c elt) s cs1 = .ok yall cs') (hl : yall.length ≤ Mi.lim) (q : ∀ H m acc, Keep H1 H m1 m → H D = some (.lst acc) → Reps K H m (D :: f) yall acc → Cells K H m (D :: f) cs' → Qd H) :
    ∃ Wi : Nat → Nat → Hp → Prop, (∃ m, Wi 0 m (upd H1 D (.lst []))) ∧ ∀ i m H, Wi i m H → (J.stop i H ∧ Qd H) ∨ (J.go i H ∧ ∃ Nx : Hp → Prop, (∀ H', Nx H' → ∃ m', m' < m ∧ Wi (i + 1) m' H') ∧ ∀ x H', J.yld i H x H' → gM K t x (L2.wipe σ own) H' fun σ2 H2 => L2.wipe σ2 own = L2.wipe σ own ∧ tC O K CA noW c σ2 H2 fun b H3 =>
      if b = true then tE O K CA noW elt σ2 H3 fun y H4 => ∃ acc, H4 D = some (.lst acc) ∧ acc.length < sizeLine ∧ Nx (upd H4 D (.lst (acc ++ [y]))) else Nx H3) := by
  cases s with
  | im xs =>
    refine lc_gen (P := fun i k cs ys => k = xs.length - i ∧ i ≤ xs.length ∧ Mi.compGo (Fc O ρ own t c elt) (xs.drop i) cs = .ok ys cs') (k0 := xs.length) hD env c1 ht (fun i k cs ys H m hp kp cc => ?_) ⟨rfl, Nat.zero_le _, e⟩ hl q
    obtain ⟨ek, hi, hg⟩ := hp
    have hv : LiveI K xs J H1 m1 f := lv
    obtain ⟨g1, g2, g3⟩ := hv H m (D :: f) cs (Later.far hD kp) cc
    by_cases hlt : i < xs.length
    · rw [List.drop_eq_getElem_cons hlt] at hg
      unfold Mi.compGo at hg
      obtain ⟨o, cs3, e1, hg⟩ := bind_ok hg
      obtain ⟨ys', cs4, e2, hg⟩ := bind_ok hg
      cases hg
      refine .inr ⟨g1 i hlt, xs[i], o, cs3, ys', k - 1, e1, by omega, ⟨by omega, hlt, e2⟩, rfl, fun v H2 y => ?_⟩
      obtain ⟨k2, c2, w, ew, rw'⟩ := g3 i v H2 hlt y
      rw [List.getElem?_eq_getElem hlt] at ew
      cases ew
      exact ⟨k2, c2, rw'⟩
    · have ei : i = xs.length := by omega
      subst ei
      rw [List.drop_length] at hg
      cases hg
      exact .inl ⟨g2, rfl, rfl⟩
  | ce n len =>
    obtain ⟨a, hm, rfl⟩ := lv
    refine lc_gen (P := fun i k cs ys => Mi.compCe (Fc O ρ own t c elt) n i k cs = .ok ys cs') (k0 := len) hD env c1 ht (fun i k cs ys H m hg kp cc => ?_) e hl q
    have hm' := kp.get hm
    cases k with
    | zero =>
      unfold Mi.compCe at hg
      split at hg
      · rename_i xs ex
        split at hg
        · rename_i hi
          cases hg
          obtain ⟨vs, h1, h2⟩ := cc.lst hm' ex
          exact .inl ⟨⟨vs, .of h1, by rw [← h2.length]; exact hi⟩, rfl, rfl⟩
        · cases hg
      · cases hg
    | succ k =>
      unfold Mi.compCe at hg
      split at hg
      · rename_i xs ex
        split at hg
        · rename_i x hx
          obtain ⟨o, cs3, e1, hg⟩ := bind_ok hg
          obtain ⟨ys', cs4, e2, hg⟩ := bind_ok hg
          cases hg
          obtain ⟨vs, h1, h2⟩ := cc.lst hm' ex
          obtain ⟨v, h3, h4⟩ := h2.get hx
          refine .inr ⟨⟨vs, v, .of h1, h3⟩, x, o, cs3, ys', k, e1, Nat.lt_succ_self _, e2, rfl, fun u H2 y => ?_⟩
          obtain ⟨y1, y2⟩ := y
          subst y1
          have y3 := y2 vs (.of h1)
          rw [h3] at y3
          cases y3
          exact ⟨Keep.refl, cc, h4⟩
        · cases hg
      · cases hg
theorem comp_val {σ : LS} {H : Hp} {Q : VK} {Wx : WX} {it : Mi.It} (ht : ∀ i ∈ tgIx t, i ∈ own) (h : tE O K CA Wx (.comp elt t it c own) σ H Q) : tLc (tI O K CA Wx it) (gM K t) (tC O K CA noW c) (tE O K CA noW elt) own σ H Q := by
  obtain ⟨ρ, cs, m, f, env, cc, h⟩ := h
  rw [ev_comp] at h
  refine ⟨ρ, cs, m, f, env, cc, h.bind.imp (fun _ _ z => z) fun s cs1 h1 J H1 m1 k1 c1 lv D hD => ?_⟩
  cases e : Mi.compS (Fc O ρ own t c elt) s cs1 with
  | bad =>
    rw [e] at h1
    exact h1.elim
  | exn x c2 =>
    exfalso
    cases s with
    | im xs => exact compGo_nox (fun _ _ _ _ => Fc_nox) _ _ _ _ e
    | ce n len => exact compCe_nox (fun _ _ _ _ => Fc_nox) _ _ _ _ _ _ e
  | ok ys cs2 =>
    rw [e] at h1
    have h2 : Rw (Zs K CA (fun cls d H => Wx cls d σ H) H m f) (Mi.mkNew ys cs2) (Ps K H m f Q) := h1
    unfold Mi.mkNew at h2
    split at h2
    · rename_i hl
      exact lc_ok hD (env.mono k1) c1 lv ht e hl fun H' m' acc kp hD' ra c' => h2 _ H' m' (k1.trans kp) (.new (k1.dom _ hD) (c1.notf hD) hD' ra c')
    · exact h2.elim
end
theorem ptsImp {X : Cx} {e : List Expr} {t t' : TT} (h : PTs X e t) (i : ∀ σ H Q, t' σ H Q → t σ H Q) : PTs X e t' := ⟨fun pins s σ H Q I hw => h.run pins s σ H Q I (i σ H Q hw)⟩
section
variable {X : Cx} {O : Orc} {CA : Nat → Addr} {Wx : WX} {pos : Pos}
theorem tc_none : PTs X [] (tC O X.K CA Wx .none) := ptsImp pts_nil fun σ H Q ⟨ρ, cs, m, f, env, c, h⟩ => by
  unfold Mi.evC at h
  exact h H m Keep.refl c
theorem tc_some {a : Expr} {ea : Mi.Ex} (ha : PT X a (tTs O X.K CA Wx ea)) : PTs X [a] (tC O X.K CA Wx (.some ea)) := ptsImp (pts_one ha) fun σ H Q ⟨ρ, cs, m, f, env, c, h⟩ => by
  unfold Mi.evC at h
  exact ⟨ρ, cs, m, f, env, c, h⟩
theorem te_comp {elt tg iter : Expr} {ifs : List Expr} {scope : Scope} {own : List (Str × Nat)} {it : Mi.It} {t : Mi.Tg} {c : Mi.OEx} {ee : Mi.Ex} (hc : X.calm = true) (hN : X.N.Nodup) (hi : PI X tg iter (tI O X.K CA Wx it)) (ok : BlkOk X.N X.env.scope scope own) (hw : ∀ i ∈ tgIx t, i ∈ own.map (·.2))
    (hg : ∀ (s : Shared) (H : Hp) (C : Addr) (cl : List (Str × Addr)) (fp : List Addr), PG (X.blk s H scope (compEnvC scope cl C X.env) fp) tg (gM X.K t)) (ht : ∀ (s : Shared) (H : Hp) (C : Addr) (cl : List (Str × Addr)) (fp : List Addr), PTs (X.blk s H scope (compEnvC scope cl C X.env) fp) ifs (tC O X.K CA noW c))
    (he : ∀ (s : Shared) (H : Hp) (C : Addr) (cl : List (Str × Addr)) (fp : List Addr), PE (X.blk s H scope (compEnvC scope cl C X.env) fp) elt (tE O X.K CA noW ee)) (hs : ∀ x, foldedSetIterable iter X.env x = pure x) :
    PE X (.ListComp elt [⟨tg, iter, ifs, 0⟩] scope pos) (tE O X.K CA Wx (.comp ee t it c (own.map (·.2)))) :=
  peImp (pe_lc hc hN hi ok hg ht he hs) fun _ _ _ h => comp_val hw h
end
end So
end S_Comps

section S_More
set_option Elab.async false
set_option linter.all false
set_option maxRecDepth 100000
set_option maxHeartbeats 4000000
/-! More: str(int), list.remove, calls by keywords with cells, two clauses. -/
namespace So
open PySem PySem.Spec PyProof.Rows L2
open Mi (W Ob Xn R Orc)
theorem idx_get {ns : List Int} {k : Int} (h : k ∈ ns) : ns[ns.idxOf k]? = some k := by
  induction ns with
  | nil => cases h
  | cons a ns ih =>
    rw [List.idxOf_cons]
    cases e : a == k with
    | true => simpa using e
    | false =>
      have : k ∈ ns := by
        rcases List.mem_cons.mp h with z | z
        · subst z; simp at e
        · exact z
      simpa using ih this
theorem idx_first {ns : List Int} {k : Int} {j : Nat} (h : j < ns.idxOf k) (hl : j < ns.length) (e : ns[j] = k) : False := by
  induction ns generalizing j with
  | nil => simp at hl
  | cons a ns ih =>
    rw [List.idxOf_cons] at h
    cases q : a == k with
    | true => rw [q] at h; simp at h
    | false =>
      rw [q] at h
      cases j with
      | zero => simp at e q; exact q e
      | succ j => exact ih (by simpa using h) (by simpa using hl) (by simpa using e)
section
variable {X : Cx}
theorem call_strI2 : CallR X (.type "str") (rvF X.K (Mi.blt .strI)) := by
  intro pins s σ H vs us Q I r ⟨ws, cs, m, f, rs, c, h⟩
  unfold Mi.blt at h
  split at h
  all_goals (rename_i q; try cases q)
  · obtain ⟨v, e, rv⟩ := one_rep rs
    subst e
    cases rv
    split at h
    · rename_i hz
      exact call_str_int pins s σ H _ us Q I r ⟨_, rfl, hz, h _ H m Keep.refl (.old (.str _) c)⟩
    · exact h.elim
  all_goals exact h.elim
theorem mt_remove2 : MtR X "list.remove" (rvM X.K .remove) := by
  intro pins s σ H x vs v us Q I rx rs ⟨wo, ws, cs, m, f, ro, rw', c, h⟩
  unfold Mi.meth at h
  split at h
  · rename_i n
    split at h
    · rename_i xs e
      cases ro with
      | ref hm =>
        split at h
        all_goals (rename_i q; try cases q)
        · cases rw' with
          | cons r1 r2 =>
            cases r2
            cases r1
            split at h
            · rename_i ns en
              split at h
              · rename_i hk
                obtain ⟨zs, h1, h2⟩ := c.lst hm e
                rw [intsW_of h2 en] at h1
                have hk' := List.contains_iff_mem.mp hk
                refine mt_remove pins s σ H _ _ v us Q I rx rs ⟨_, ns, _, ns.idxOf _, rfl, rfl, h1, idx_get hk', fun j hj e2 => ?_, ?_⟩
                · obtain ⟨hl, e3⟩ := List.getElem?_eq_some_iff.mp e2
                  exact idx_first hj hl e3
                · exact h _ _ m (Keep.cell (List.mem_of_getElem? hm)) (.old .non (c.set hm (Reps.ints _)))
              · exact h.elim
            · exact h.elim
        all_goals exact h.elim
    · exact h.elim
  · exact h.elim
end
section
variable {X : Cx} {O : Orc} {CA : Nat → Addr} {Wx : WX} {k : Nat} {fa : Addr} {fd : FuncData} {ps : List Str} {n : Nat} {x : Str} {p pos : Pos} {as : Mi.Exs} {e : Expr} {ea : Mi.Ex}
theorem te_callHK {ks : List Str} {pm : List Nat} {kws : List Keyword} (tk : Takes X Wx) (F : FnOk X.prog X.w X.K X.mg X.base (L2.CX X.prog X.w) k fa fd ps (spF X.K CA (O.call n))) (hr : Room k X.A) (hg : Gl X x) (hm : X.mg x = some (.ref fa)) (hk : PySem.W.keepIn X.K (.ref fa) = true)
    (hb : KPer X.K fd ps ks pm) (hkw : PK X kws (tAs O X.K CA Wx as)) (hall : (backToKw pos (keywordEach kws X.env)).all (·.1.isSome) = true) (hks : (backToKw pos (keywordEach kws X.env)).filterMap (·.1) = ks)
    (hdb : (x == ("__debug__" : Str)) = false) (hpl : ((backTo pos (starEach [] X.env)).any (·.1) || (backToKw pos (keywordEach kws X.env)).any (·.1.isNone)) = false) :
    PE X (.Call (.Name x p) [] kws pos) (tE O X.K CA Wx (.callHK n as pm)) := by
  refine ⟨fun pins s σ H Q I ⟨ρ, cs, m, f, env, c, h⟩ => ?_⟩
  unfold Mi.ev at h
  refine wpAny_Call_Name_kw (ld_glob I hg hm ?_ hdb)
  refine PySem.W.callWith_KW0 (h₀ := X.base) I.ok.mod.kin hk hall ?_ hpl
  have h' : tAs O X.K CA Wx as σ H (fun zs H2 => spF X.K CA (O.call n) (Mi.permute zs pm) H2 Q (WE Wx σ)) := tAs_then env c h fun ws cs2 vs H2 m2 k2 r2 c2 env2 h2 => ⟨_, cs2, m2, f, perm_reps r2 pm, c2, h2.imp (fun _ _ z => z) fun _ _ z => z.mono k2⟩
  refine thn (hkw.run pos pins s σ H _ I h') fun ws s2 ⟨zs, H2, I2, rz, q2⟩ => ⟨I2.kIn, ?_⟩
  rw [hks]
  exact run_kw F hr hb (passAt tk σ) I2 rz q2
theorem te_remove {o : Expr} {apos : Pos} (ho : PE X o (tE O X.K CA Wx ea)) (ha : PA X [e] (tAs O X.K CA Wx as)) (hbase : attributeBase o "remove" X.env (eval o X.env) = eval o X.env) (hline : (apos.endLine == pos.line) = true) (hs : starEach [e] X.env = (false, eval e X.env) :: starEach [] X.env) :
    PE X (.Call (.Attribute o "remove" apos) [e] [] pos) (tE O X.K CA Wx (.meth .remove ea as)) :=
  peImp (pe_bm PySem.F.plainAttrs_list PySem.F.slot_list_remove PySem.F.type_list_remove mt_remove2 ho ha hbase (by rw [hs]; rfl) hline hs (by rfl)) fun _ _ _ h => meth_ok h
end
end So
end S_More

section S_Comps2
set_option Elab.async false
set_option linter.all false
set_option maxRecDepth 100000
set_option maxHeartbeats 4000000
/-! Comps2: [e for t in xs for t1 in e1], e1 a tuple. -/
namespace So
open PySem PySem.Spec PyProof.Rows L2
open Mi (W Ob Xn R Orc)
/-- the inner walk of one outer item -/
def G2 (O : Orc) (ρ : ME) (t : Mi.Tg) (t1 : Mi.Tg) (e1 elt : Mi.Ex) (own own1 : List Nat) (x : W) (cs : List Ob) : R (List W) :=
  match Mi.put t (Mi.fz x) (Mi.wipe ρ own) with
  | some ρ' => ((Mi.ev O ρ' e1 cs).bind fun y cs => (match y with
    | .tup ys => Mi.compGo (Fc O ρ' own1 t1 .none elt) ys cs
    | _ => .bad)).noX
  | none => .bad
theorem ev_comp2 {O : Orc} {ρ : ME} {elt e1 : Mi.Ex} {t t1 : Mi.Tg} {it : Mi.It} {own own1 : List Nat} {cs : List Ob} : Mi.ev O ρ (.comp2 elt t it t1 e1 own own1) cs = (Mi.evI O ρ it cs).bind fun s cs => (match s with
    | .im xs => (Mi.cat2 (G2 O ρ t t1 e1 elt own own1) xs cs).bind fun ys cs => Mi.mkNew ys cs
    | _ => .bad) := by
  rw [Mi.ev]
  have q : ∀ ρ' : ME, (fun (y : W) (cs : List Ob) => (match Mi.put t1 (Mi.fz y) (Mi.wipe ρ' own1) with
      | some ρ2 => ((Mi.ev O ρ2 elt cs).bind fun z cs => R.ok (some (Mi.fz z)) cs).noX
      | none => .bad)) = Fc O ρ' own1 t1 .none elt := fun ρ' => by
    funext y cs
    unfold Fc
    cases Mi.put t1 (Mi.fz y) (Mi.wipe ρ' own1) with
    | none => rfl
    | some ρ2 =>
      simp only
      rw [Mi.evC]
      rfl
  refine congrArg _ (funext fun s => funext fun cs => ?_)
  cases s with
  | ce n k => rfl
  | im xs =>
    refine congrArg (fun F => (Mi.cat2 F xs cs).bind fun ys cs => Mi.mkNew ys cs) (funext fun x => funext fun cs => ?_)
    unfold G2
    cases Mi.put t (Mi.fz x) (Mi.wipe ρ own) with
    | none => rfl
    | some ρ' =>
      refine congrArg Mi.R.noX (congrArg _ (funext fun y => funext fun cs => ?_))
      cases y <;> first | rfl | exact congrArg (fun F => Mi.compGo F _ cs) (q ρ')
theorem noX_ok' {α : Type} {r : R α} {a : α} {cs : List Ob} (h : r.noX = .ok a cs) : r = .ok a cs := by
  cases r with
  | ok b c => exact h
  | exn x c => cases h
  | bad => cases h
theorem G2_ok {O : Orc} {ρ : ME} {t t1 : Mi.Tg} {e1 elt : Mi.Ex} {own own1 : List Nat} {x : W} {cs cs3 : List Ob} {zs : List W} (h : G2 O ρ t t1 e1 elt own own1 x cs = .ok zs cs3) : ∃ ρ' us cs2, Mi.put t (Mi.fz x) (Mi.wipe ρ own) = some ρ' ∧ Mi.ev O ρ' e1 cs = .ok (.tup us) cs2 ∧ Mi.compGo (Fc O ρ' own1 t1 .none elt) us cs2 = .ok zs cs3 := by
  unfold G2 at h
  split at h
  · rename_i ρ' e
    obtain ⟨y, cs2, h1, h2⟩ := bind_ok (noX_ok' h)
    cases y <;> first | (cases h2; done) | exact ⟨ρ', _, cs2, e, h1, h2⟩
  · cases h
theorem G2_nox {O : Orc} {ρ : ME} {t t1 : Mi.Tg} {e1 elt : Mi.Ex} {own own1 : List Nat} {x : W} {cs c1 : List Ob} {z : Xn} : G2 O ρ t t1 e1 elt own own1 x cs ≠ .exn z c1 := by
  unfold G2
  split
  · generalize ((Mi.ev O _ e1 cs).bind _) = r
    intro h
    cases r <;> cases h
  · intro h
    cases h
theorem cat2_nox {F : W → List Ob → R (List W)} (hF : ∀ x cs z c1, F x cs ≠ .exn z c1) : ∀ (xs : List W) (cs : List Ob) (z : Xn) (c1 : List Ob), Mi.cat2 F xs cs ≠ .exn z c1
  | [], cs, z, c1, h => by cases h
  | x :: xs, cs, z, c1, h => by
    unfold Mi.cat2 at h
    cases e : F x cs with
    | bad => rw [e] at h; cases h
    | exn z c1 => exact hF _ _ _ _ e
    | ok o c2 =>
      rw [e] at h
      have h' : ((Mi.cat2 F xs c2).bind fun ys cs => R.ok (o ++ ys) cs) = .exn z c1 := h
      cases e2 : Mi.cat2 F xs c2 with
      | bad => rw [e2] at h'; cases h'
      | exn z c3 => exact cat2_nox hF _ _ _ _ e2
      | ok o c3 => rw [e2] at h'; cases h'
section
variable {O : Orc} {K : PySem.W.Frag} {CA : Nat → Addr} {f : List Addr} {D : Addr}
/-- the inner loop, all told -/
theorem inner_ok {ρ' : ME} {σ2 : LS} {own1 : List Nat} {t1 : Mi.Tg} {elt : Mi.Ex} {us zs wacc : List W} {J1 : It} {H4 : Hp} {m4 : List Addr} {cs2 cs3 : List Ob} {acc : List V} {Nx : Hp → Prop} {big : Nat} (env : EnvR K H4 m4 (D :: f) ρ' σ2) (cc : Cells K H4 m4 (D :: f) cs2) (lv : LiveI K us J1 H4 m4 (D :: f)) (hD : H4 D = some (.lst acc)) (ra : Reps K H4 m4 (D :: f) wacc acc)
    (ht1 : ∀ i ∈ tgIx t1, i ∈ own1) (e : Mi.compGo (Fc O ρ' own1 t1 .none elt) us cs2 = .ok zs cs3) (hl : wacc.length + zs.length ≤ Mi.lim)
    (hN : ∀ H m acc', Later K H4 m4 (D :: f) H m (D :: f) → (∀ H0 m0, Keep H0 H4 m0 m4 → H0 D = none → Keep H0 H m0 m) → H D = some (.lst acc') → Reps K H m (D :: f) (wacc ++ zs) acc' → Cells K H m (D :: f) cs3 → Nx H) :
    ∃ W1 : Nat → Nat → Hp → Prop, (∃ m, W1 0 m H4) ∧ ∀ j k H, W1 j k H → (J1.stop j H ∧ Nx H) ∨ (J1.go j H ∧ ∃ Nx1 : Hp → Prop, (∀ H', Nx1 H' → ∃ k', k' < k ∧ W1 (j + 1) k' H') ∧ ∀ x H', J1.yld j H x H' → gM K t1 x (L2.wipe σ2 own1) H' fun σ3 H5 => L2.wipe σ3 own1 = L2.wipe σ2 own1 ∧ tC O K CA noW .none σ3 H5 fun b H6 =>
      if b = true then tE O K CA noW elt σ3 H6 fun y H7 => ∃ acc, H7 D = some (.lst acc) ∧ acc.length < sizeLine ∧ Nx1 (upd H7 D (.lst (acc ++ [y]))) else Nx1 H6) := by
  refine ⟨fun j k H => ∃ wa acc m cs ys, Later K H4 m4 (D :: f) H m (D :: f) ∧ (∀ H0 m0, Keep H0 H4 m0 m4 → H0 D = none → Keep H0 H m0 m) ∧ H D = some (.lst acc) ∧ Reps K H m (D :: f) wa acc ∧ Cells K H m (D :: f) cs ∧ k = us.length - j ∧ j ≤ us.length ∧ Mi.compGo (Fc O ρ' own1 t1 .none elt) (us.drop j) cs = .ok ys cs3 ∧ wa ++ ys = wacc ++ zs,
    ⟨us.length, wacc, acc, m4, cs2, zs, .of Keep.refl, fun _ _ k _ => k, hD, ra, cc, rfl, Nat.zero_le _, e, rfl⟩, ?_⟩
  rintro j k H ⟨wa, acc, m, cs, ys, lt, kk, hDH, ra, cc, ek, hj, hg, ey⟩
  obtain ⟨g1, g2, g3⟩ := lv H m (D :: f) cs lt cc
  by_cases hlt : j < us.length
  · rw [List.drop_eq_getElem_cons hlt] at hg
    unfold Mi.compGo at hg
    obtain ⟨o, cs4, e1, hg⟩ := bind_ok hg
    obtain ⟨ys', cs5, e2, hg⟩ := bind_ok hg
    cases hg
    refine .inr ⟨g1 j hlt, fun H' => ∃ k', k' < k ∧ ∃ wa acc m cs ys, Later K H4 m4 (D :: f) H' m (D :: f) ∧ (∀ H0 m0, Keep H0 H4 m0 m4 → H0 D = none → Keep H0 H' m0 m) ∧ H' D = some (.lst acc) ∧ Reps K H' m (D :: f) wa acc ∧ Cells K H' m (D :: f) cs ∧ k' = us.length - (j + 1) ∧ j + 1 ≤ us.length ∧ Mi.compGo (Fc O ρ' own1 t1 .none elt) (us.drop (j + 1)) cs = .ok ys cs3 ∧ wa ++ ys = wacc ++ zs, fun H' h => h, fun v H2 y => ?_⟩
    obtain ⟨k2, c2, w, ew, r2⟩ := g3 j v H2 hlt y
    rw [List.getElem?_eq_getElem hlt] at ew
    cases ew
    have hD2 : H2 D = some (.lst acc) := k2.same D _ hDH (cc.fm D List.mem_cons_self)
    have l2 : Later K H4 m4 (D :: f) H2 m (D :: f) := lt.trans (.of k2)
    refine comp_step (CA := CA) (l2.env (env.wipe own1)) c2 r2 hD2 e1 ht1 (fun eo H' m' k3 c3 hD3 => ?_) fun y' eo => ⟨?_, fun H' m' u k3 c3 ru hD3 => ?_⟩
    · subst eo
      simp only at ey
      exact ⟨k - 1, by omega, wa, acc, m', cs4, ys', l2.trans (.of k3), fun H0 m0 q h0 => ((kk H0 m0 q h0).trans k2).trans k3, hD3, (ra.mono k2).mono k3, c3, by omega, hlt, e2, ey⟩
    · subst eo
      simp only at ey
      have q := congrArg List.length ey
      rw [List.length_append, List.length_cons, List.length_append, ra.length] at q
      have := sl_le hl
      omega
    · subst eo
      simp only at ey
      refine ⟨k - 1, by omega, wa ++ [y'], acc ++ [u], m', cs4, ys', (l2.trans (.of k3)).trans ⟨fun _ _ r => r.write⟩, fun H0 m0 q h0 => (((kk H0 m0 q h0).trans k2).trans k3).write h0, upd_same .., (((ra.mono k2).mono k3).append (.cons ru .nil)).write, c3.write, by omega, hlt, e2, ?_⟩
      rw [List.append_assoc]
      exact ey
  · have ei : j = us.length := by omega
    subst ei
    rw [List.drop_length] at hg
    cases hg
    rw [List.append_nil] at ey
    subst ey
    exact .inl ⟨g2, hN H m acc lt kk hDH ra cc⟩
theorem comp2_val {own own1 : List Nat} {t t1 : Mi.Tg} {e1 elt : Mi.Ex} {σ : LS} {H : Hp} {Q : VK} {Wx : WX} {it : Mi.It} (ht : ∀ i ∈ tgIx t, i ∈ own) (ht1 : ∀ i ∈ tgIx t1, i ∈ own1) (h : tE O K CA Wx (.comp2 elt t it t1 e1 own own1) σ H Q) :
    tLc2 (tI O K CA Wx it) (gM K t) (tC O K CA noW .none) (tI O K CA noW (.ex e1)) (gM K t1) (tC O K CA noW .none) (tE O K CA noW elt) own own1 σ H Q := by
  obtain ⟨ρ, cs, m, f, env, cc, h⟩ := h
  rw [ev_comp2] at h
  refine ⟨ρ, cs, m, f, env, cc, h.bind.imp (fun _ _ z => z) fun s cs1 h1 J H1 m1 k1 c1 lv D hD => ?_⟩
  cases s with
  | ce n k => exact h1.elim
  | im xs =>
  have h1 : Rw (Zs K CA (fun cls d H => Wx cls d σ H) H m f) ((Mi.cat2 (G2 O ρ t t1 e1 elt own own1) xs cs1).bind fun ys cs => Mi.mkNew ys cs) (Ps K H m f Q) := h1
  have lv : LiveI K xs J H1 m1 f := lv
  cases e : Mi.cat2 (G2 O ρ t t1 e1 elt own own1) xs cs1 with
  | bad =>
    rw [e] at h1
    exact h1.elim
  | exn x c2 => exact (cat2_nox (fun _ _ _ _ => G2_nox) _ _ _ _ e).elim
  | ok yall cs' =>
  rw [e] at h1
  have h2 : Rw (Zs K CA (fun cls d H => Wx cls d σ H) H m f) (Mi.mkNew yall cs') (Ps K H m f Q) := h1
  unfold Mi.mkNew at h2
  split at h2
  · rename_i hl
    have q : ∀ H m' acc, Keep H1 H m1 m' → H D = some (.lst acc) → Reps K H m' (D :: f) yall acc → Cells K H m' (D :: f) cs' → Q (.ref D) H := fun H' m' acc kp hD' ra c' => h2 _ H' m' (k1.trans kp) (.new (k1.dom _ hD) (c1.notf hD) hD' ra c')
    have env1 := env.mono k1
    refine ⟨fun i k H => ∃ wacc acc m cs ys, Keep H1 H m1 m ∧ H D = some (.lst acc) ∧ Reps K H m (D :: f) wacc acc ∧ Cells K H m (D :: f) cs ∧ k = xs.length - i ∧ i ≤ xs.length ∧ Mi.cat2 (G2 O ρ t t1 e1 elt own own1) (xs.drop i) cs = .ok ys cs' ∧ wacc ++ ys = yall,
      ⟨xs.length, [], [], m1, cs1, yall, Keep.new hD, upd_same .., .nil, c1.aside hD, rfl, Nat.zero_le _, e, rfl⟩, ?_⟩
    rintro i k H ⟨wacc, acc, m, cs, ys, kp, hDH, ra, cc, ek, hi, hg, ey⟩
    obtain ⟨g1, g2, g3⟩ := lv H m (D :: f) cs (Later.far hD kp) cc
    by_cases hlt : i < xs.length
    · rw [List.drop_eq_getElem_cons hlt] at hg
      unfold Mi.cat2 at hg
      obtain ⟨zs, cs4, e2, hg⟩ := bind_ok hg
      obtain ⟨ys', cs5, e3, hg⟩ := bind_ok hg
      cases hg
      refine .inr ⟨g1 i hlt, fun H' => ∃ k', k' < k ∧ ∃ wacc acc m cs ys, Keep H1 H' m1 m ∧ H' D = some (.lst acc) ∧ Reps K H' m (D :: f) wacc acc ∧ Cells K H' m (D :: f) cs ∧ k' = xs.length - (i + 1) ∧ i + 1 ≤ xs.length ∧ Mi.cat2 (G2 O ρ t t1 e1 elt own own1) (xs.drop (i + 1)) cs = .ok ys cs' ∧ wacc ++ ys = yall, fun H' h => h, fun v H2 y => ?_⟩
      obtain ⟨k2, c2, w, ew, r2⟩ := g3 i v H2 hlt y
      rw [List.getElem?_eq_getElem hlt] at ew
      cases ew
      have kp2 := kp.trans k2
      obtain ⟨ρ', us, cs2, p1, p2, p3⟩ := G2_ok e2
      refine put_ok ht p1 r2.fz ((Later.far hD kp2).env (env1.wipe own)) fun σ2 env2 ag => ⟨?_, ρ', cs, m, D :: f, env2, c2, ?_⟩
      · rw [wipe_agree ag]
        exact (wipe_agree agree_wipe).symm
      · rw [Mi.evC]
        intro H3 m3 k3 c3
        refine iteT ⟨ρ', cs, m3, D :: f, env2.mono k3, c3, ?_⟩
        rw [Mi.evI, p2]
        intro J1 H4 m4 k4 c4 lv1
        have hD4 : H4 D = some (.lst acc) := k4.same D _ (k3.same D _ (k2.same D _ hDH (cc.fm D List.mem_cons_self)) (c2.fm D List.mem_cons_self)) (c3.fm D List.mem_cons_self)
        refine inner_ok (big := 0) ((env2.mono k3).mono k4) c4 lv1 hD4 (((ra.mono k2).mono k3).mono k4) ht1 p3 ?_ fun H5 m5 acc' l5 kk hD5 ra5 c5 => ?_
        · have q := congrArg List.length ey
          rw [List.length_append, List.length_append] at q
          omega
        · refine ⟨k - 1, by omega, wacc ++ zs, acc', m5, cs4, ys', kk H1 m1 ((kp2.trans k3).trans k4) hD, hD5, ra5, c5, by omega, hlt, e3, ?_⟩
          rw [List.append_assoc]
          exact ey
    · have ei : i = xs.length := by omega
      subst ei
      rw [List.drop_length] at hg
      cases hg
      rw [List.append_nil] at ey
      subst ey
      exact .inl ⟨g2, q H m acc kp hDH ra cc⟩
  · exact h2.elim
end
end So
end S_Comps2

section S_Stmts
set_option Elab.async false
set_option linter.all false
set_option maxRecDepth 100000
set_option maxHeartbeats 4000000
/-! Stmts: statements. -/
namespace So
open PySem PySem.Spec PyProof.Rows L2
open Mi (W Ob Xn R Orc)
section
variable (O : Orc) (K : PySem.W.Frag) (CA : Nat → Addr) (Wx : WX) (wr : List Nat)
/-- what is wanted of an exception that leaves a statement -/
def ZSm (H0 : Hp) (m0 f : List Addr) (σ0 : LS) (x : Xn) (cs : List Ob) : Prop := ∀ cls d H' m' σ', Keep H0 H' m0 m' → Cells K H' m' f cs → XRep K CA H' m' f x cls d → Agree wr σ0 σ' → Wx cls d σ' H'
/-- what is wanted behind a statement -/
def PSm (H0 : Hp) (m0 f : List Addr) (σ0 : LS) (D : Ends) (fl : Mi.Fl) (cs : List Ob) : Prop :=
  match fl with
  | .nx ρ => ∀ H' m' σ', Keep H0 H' m0 m' → Agree wr σ0 σ' → EnvR K H' m' f ρ σ' → Cells K H' m' f cs → D.nx σ' H'
  | .bk ρ => ∀ H' m' σ', Keep H0 H' m0 m' → Agree wr σ0 σ' → EnvR K H' m' f ρ σ' → Cells K H' m' f cs → D.bk σ' H'
  | .ct ρ => ∀ H' m' σ', Keep H0 H' m0 m' → Agree wr σ0 σ' → EnvR K H' m' f ρ σ' → Cells K H' m' f cs → D.ct σ' H'
  | .ret w => ∀ v H' m', Keep H0 H' m0 m' → Out K H0 m0 f H' m' w cs v → D.rt v H'
def tR (g : ME → List Ob → R Mi.Fl) : TS := fun D σ H => ∃ (H0 : Hp) (m0 f : List Addr) (σ0 : LS) (ρ : ME) (cs : List Ob) (m : List Addr), Keep H0 H m0 m ∧ Agree wr σ0 σ ∧ EnvR K H m f ρ σ ∧ Cells K H m f cs ∧ Rw (ZSm K CA Wx wr H0 m0 f σ0) (g ρ cs) (PSm K wr H0 m0 f σ0 D)
/-- the reading of a statement, of statements -/
def tS (s : Mi.S) : TS := tR K CA Wx wr (Mi.run O s)
def tSs (ss : Mi.Ss) : TS := tR K CA Wx wr (Mi.runs O ss)
end
section
variable {O : Orc} {K : PySem.W.Frag} {CA : Nat → Addr} {Wx : WX} {wr : List Nat} {H0 H H1 : Hp} {m0 m m1 f : List Addr} {σ0 σ σ1 : LS} {ρ : ME} {cs : List Ob} {D : Ends}
theorem ZSm.mono (k : Keep H0 H1 m0 m1) (a : Agree wr σ0 σ1) {x : Xn} {cs : List Ob} (h : ZSm K CA Wx wr H0 m0 f σ0 x cs) : ZSm K CA Wx wr H1 m1 f σ1 x cs := fun cls d H' m' σ' k' c' r a' => h cls d H' m' σ' (k.trans k') c' r (a.trans a')
theorem PSm.mono (k : Keep H0 H1 m0 m1) (a : Agree wr σ0 σ1) {fl : Mi.Fl} {cs : List Ob} (h : PSm K wr H0 m0 f σ0 D fl cs) : PSm K wr H1 m1 f σ1 D fl cs := by
  cases fl with
  | nx ρ => exact fun H' m' σ' k' a' => h H' m' σ' (k.trans k') (a.trans a')
  | bk ρ => exact fun H' m' σ' k' a' => h H' m' σ' (k.trans k') (a.trans a')
  | ct ρ => exact fun H' m' σ' k' a' => h H' m' σ' (k.trans k') (a.trans a')
  | ret w => exact fun v H' m' k' o => h v H' m' (k.trans k') (o.back k)
theorem ZSm.at (k : Keep H0 H m0 m) (a : Agree wr σ0 σ) {x : Xn} {cs : List Ob} (h : ZSm K CA Wx wr H0 m0 f σ0 x cs) : Zs K CA (fun cls d H => Wx cls d σ H) H m f x cs := fun cls d H' m' k' c' r => h cls d H' m' σ (k.trans k') c' r a
/-- an expression first -/
theorem st_E {β : Type} {e : Mi.Ex} {g : W → List Ob → R β} {q : β → List Ob → Prop} {Q : VK} (kp : Keep H0 H m0 m) (ag : Agree wr σ0 σ) (env : EnvR K H m f ρ σ) (c : Cells K H m f cs) (h : Rw (ZSm K CA Wx wr H0 m0 f σ0) ((Mi.ev O ρ e cs).bind g) q)
    (k : ∀ w cs1 v H1 m1, Keep H0 H1 m0 m1 → Keep H H1 m m1 → Out K H m f H1 m1 w cs1 v → EnvR K H1 m1 f ρ σ → Rw (ZSm K CA Wx wr H0 m0 f σ0) (g w cs1) q → Q v H1) : tE O K CA Wx e σ H Q :=
  ⟨ρ, cs, m, f, env, c, h.bind.imp (fun _ _ z => z.at kp ag) fun w cs1 h1 v H1 m1 k1 o => k w cs1 v H1 m1 (kp.trans k1) k1 o (env.mono k1) h1⟩
theorem st_T {β : Type} {e : Mi.Ex} {g : Bool → List Ob → R β} {q : β → List Ob → Prop} {Q : Bool → Hp → Prop} (kp : Keep H0 H m0 m) (ag : Agree wr σ0 σ) (env : EnvR K H m f ρ σ) (c : Cells K H m f cs) (h : Rw (ZSm K CA Wx wr H0 m0 f σ0) ((Mi.test O ρ e cs).bind g) q)
    (k : ∀ b cs1 H1 m1, Keep H0 H1 m0 m1 → Cells K H1 m1 f cs1 → EnvR K H1 m1 f ρ σ → Rw (ZSm K CA Wx wr H0 m0 f σ0) (g b cs1) q → Q b H1) : tTs O K CA Wx e σ H Q :=
  ⟨ρ, cs, m, f, env, c, h.bind.imp (fun _ _ z => z.at kp ag) fun b cs1 h1 H1 m1 k1 c1 => k b cs1 H1 m1 (kp.trans k1) c1 (env.mono k1) h1⟩
theorem st_I {β : Type} {it : Mi.It} {g : Mi.Src → List Ob → R β} {q : β → List Ob → Prop} {Q : It → Hp → Prop} (kp : Keep H0 H m0 m) (ag : Agree wr σ0 σ) (env : EnvR K H m f ρ σ) (c : Cells K H m f cs) (h : Rw (ZSm K CA Wx wr H0 m0 f σ0) ((Mi.evI O ρ it cs).bind g) q)
    (k : ∀ s cs1 J H1 m1, Keep H0 H1 m0 m1 → Cells K H1 m1 f cs1 → EnvR K H1 m1 f ρ σ → Live K s J H1 m1 f → Rw (ZSm K CA Wx wr H0 m0 f σ0) (g s cs1) q → Q J H1) : tI O K CA Wx it σ H Q :=
  ⟨ρ, cs, m, f, env, c, h.bind.imp (fun _ _ z => z.at kp ag) fun s cs1 h1 J H1 m1 k1 c1 lv => k s cs1 J H1 m1 (kp.trans k1) c1 (env.mono k1) lv h1⟩
/-! ### single statements -/
theorem set_ok {i : Nat} {e : Mi.Ex} (hi : i ∈ wr) (h : tS O K CA Wx wr (.set i e) D σ H) : tAsg (tE O K CA Wx e) (gName i) D σ H := by
  obtain ⟨H0, m0, f, σ0, ρ, cs, m, kp, ag, env, c, h⟩ := h
  rw [Mi.run] at h
  exact st_E kp ag env c h fun w cs1 v H1 m1 k1 k2 o env1 h1 => h1 H1 m1 _ k1 (ag.set hi) (env1.set o.rep) o.cells
theorem setC_ok {i : Nat} {e : Mi.Ex} (hi : i ∈ wr) (h : tS O K CA Wx wr (.setC i e) D σ H) : tAsg (tE O K CA Wx e) (gName i) D σ H := by
  obtain ⟨H0, m0, f, σ0, ρ, cs, m, kp, ag, env, c, h⟩ := h
  rw [Mi.run] at h
  refine st_E kp ag env c h fun w cs1 v H1 m1 k1 k2 o env1 h1 => ?_
  cases o with
  | old r c1 =>
    have hn : w = Mi.fz w := r.noNew.symm
    cases w <;> first | (cases hn; done) | exact h1 H1 m1 _ k1 (ag.set hi) (env1.set r) c1
  | @new xs vs a cs' h2 h3 h4 h5 h6 =>
    have h1' : PSm K wr H0 m0 f σ0 D (.nx (ρ.set i (some (.ref cs1.length)))) (cs1 ++ [.lst xs]) := h1
    have kg : Keep H1 H1 m1 (m1 ++ [a]) → True := fun _ => trivial
    have k1' : Keep H0 H1 m0 (m1 ++ [a]) := k1.cellNew (kp.dom _ h2)
    have cg := h6.grow h3 h4 h5
    have hm : (m1 ++ [a])[cs1.length]? = some a := by
      rw [h6.len, List.getElem?_append_right (Nat.le_refl _), Nat.sub_self]
      rfl
    have envg : EnvR K H1 (m1 ++ [a]) f ρ σ := env.mono (k2.cellNew h2)
    exact h1' H1 (m1 ++ [a]) _ k1' (ag.set hi) (envg.set (.ref hm)) cg
theorem setT_ok {t : Mi.Tg} {e : Mi.Ex} (hw : ∀ i ∈ tgIx t, i ∈ wr) (h : tS O K CA Wx wr (.setT t e) D σ H) : tAsg (tE O K CA Wx e) (gM K t) D σ H := by
  obtain ⟨H0, m0, f, σ0, ρ, cs, m, kp, ag, env, c, h⟩ := h
  rw [Mi.run] at h
  refine st_E kp ag env c h fun w cs1 v H1 m1 k1 k2 o env1 h1 => ?_
  split at h1
  · rename_i ρ' e
    exact put_ok hw e o.rep env1 fun σ' env' a => h1 H1 m1 σ' k1 (ag.trans a) env' o.cells
  · exact h1.elim
theorem setI_ok {X : Cx} {eo ei e : Mi.Ex} (h : tS O X.K CA Wx wr (.setI eo ei e) D σ H) : tAsg (tE O X.K CA Wx e) (gSub (tE O X.K CA Wx eo) (tE O X.K CA Wx ei) (rvS X.K)) D σ H := by
  obtain ⟨H0, m0, f, σ0, ρ, cs, m, kp, ag, env, c, h⟩ := h
  rw [Mi.run] at h
  refine st_E kp ag env c h fun w cs1 v H1 m1 k1 k1' o env1 h1 => ?_
  refine st_E k1 ag env1 o.cells h1 fun w2 cs2 v2 H2 m2 k2 k2' o2 env2 h2 => ?_
  refine st_E k2 ag env2 o2.cells h2 fun w3 cs3 v3 H3 m3 k3 k3' o3 env3 h3 => ?_
  split at h3
  · rename_i cs' e
    refine ⟨w2, w3, Mi.fz w, cs3, cs', m3, f, o2.rep.mono k3', o3.rep, ?_, o3.cells, ?_, ?_⟩
    · exact ((o.rep.mono k2').mono k3').fz
    · have q : Mi.fz (Mi.fz w) = Mi.fz w := by cases w <;> rfl
      rw [q]
      exact e
    · intro H' k' c'
      exact h3 H' m3 σ (k3.trans k') ag (env3.mono k') c'
  · exact h3.elim
theorem par_ok {i j : Nat} {ea eb : Mi.Ex} {ta : TA} (hi : i ∈ wr) (hj : j ∈ wr) (hta : ∀ σ H (Q : List V → Hp → Prop), tE O K CA Wx ea σ H (fun v H1 => tE O K CA Wx eb σ H1 fun u H2 => Q [v, u] H2) → ta σ H Q) (h : tS O K CA Wx wr (.par i j ea eb) D σ H) : tPar i j ta D σ H := by
  obtain ⟨H0, m0, f, σ0, ρ, cs, m, kp, ag, env, c, h⟩ := h
  rw [Mi.run] at h
  refine hta _ _ _ (st_E kp ag env c h fun w cs1 v H1 m1 k1 k1' o env1 h1 => ?_)
  refine st_E k1 ag env1 o.cells h1 fun w2 cs2 v2 H2 m2 k2 k2' o2 env2 h2 => ?_
  exact ⟨v, v2, rfl, h2 H2 m2 _ k2 ((ag.set hi).set hj) ((env2.set (o.rep.mono k2')).set o2.rep) o2.cells⟩
theorem ex_ok {e : Mi.Ex} (h : tS O K CA Wx wr (.ex e) D σ H) : tDrop (tE O K CA Wx e) D σ H := by
  obtain ⟨H0, m0, f, σ0, ρ, cs, m, kp, ag, env, c, h⟩ := h
  rw [Mi.run] at h
  exact st_E kp ag env c h fun w cs1 v H1 m1 k1 k2 o env1 h1 => h1 H1 m1 σ k1 ag env1 o.cells
theorem ret_ok {e : Mi.Ex} (h : tS O K CA Wx wr (.ret e) D σ H) : tRet (tE O K CA Wx e) D σ H := by
  obtain ⟨H0, m0, f, σ0, ρ, cs, m, kp, ag, env, c, h⟩ := h
  rw [Mi.run] at h
  exact st_E kp ag env c h fun w cs1 v H1 m1 k1 k2 o env1 h1 => h1 v H1 m1 k1 (o.back kp)
theorem retN_ok (h : tS O K CA Wx wr .retN D σ H) : tRetN D σ H := by
  obtain ⟨H0, m0, f, σ0, ρ, cs, m, kp, ag, env, c, h⟩ := h
  rw [Mi.run] at h
  exact h _ H m kp (.old .non c)
theorem pass_ok (h : tS O K CA Wx wr .pass D σ H) : tNext D σ H := by
  obtain ⟨H0, m0, f, σ0, ρ, cs, m, kp, ag, env, c, h⟩ := h
  rw [Mi.run] at h
  exact h H m σ kp ag env c
theorem brk_ok (h : tS O K CA Wx wr .brk D σ H) : tBreak D σ H := by
  obtain ⟨H0, m0, f, σ0, ρ, cs, m, kp, ag, env, c, h⟩ := h
  rw [Mi.run] at h
  exact h H m σ kp ag env c
theorem cnt_ok (h : tS O K CA Wx wr .cnt D σ H) : tCont D σ H := by
  obtain ⟨H0, m0, f, σ0, ρ, cs, m, kp, ag, env, c, h⟩ := h
  rw [Mi.run] at h
  exact h H m σ kp ag env c
theorem fail_ok (h : tS O K CA Wx wr .fail D σ H) : tNever D σ H := by
  obtain ⟨H0, m0, f, σ0, ρ, cs, m, kp, ag, env, c, h⟩ := h
  rw [Mi.run] at h
  exact h
/-! ### several -/
theorem nil_ok (h : tSs O K CA Wx wr .nil D σ H) : tNext D σ H := by
  obtain ⟨H0, m0, f, σ0, ρ, cs, m, kp, ag, env, c, h⟩ := h
  rw [Mi.runs] at h
  exact h H m σ kp ag env c
theorem cons_ok {s : Mi.S} {ss : Mi.Ss} (h : tSs O K CA Wx wr (.cons s ss) D σ H) : tSeq (tS O K CA Wx wr s) (tSs O K CA Wx wr ss) D σ H := by
  obtain ⟨H0, m0, f, σ0, ρ, cs, m, kp, ag, env, c, h⟩ := h
  rw [Mi.runs] at h
  refine ⟨H0, m0, f, σ0, ρ, cs, m, kp, ag, env, c, h.bind.imp (fun _ _ z => z) fun fl cs1 h1 => ?_⟩
  cases fl with
  | nx ρ' => exact fun H' m' σ' k' a' e' c' => ⟨H0, m0, f, σ0, ρ', cs1, m', k', a', e', c', h1⟩
  | ret w => exact h1
  | bk ρ' => exact h1
  | ct ρ' => exact h1
theorem if_ok {e : Mi.Ex} {a b : Mi.Ss} (h : tS O K CA Wx wr (.ife e a b) D σ H) : tIfS (tTs O K CA Wx e) (tSs O K CA Wx wr a) (tSs O K CA Wx wr b) D σ H := by
  obtain ⟨H0, m0, f, σ0, ρ, cs, m, kp, ag, env, c, h⟩ := h
  rw [Mi.run] at h
  refine st_T kp ag env c h fun k cs1 H1 m1 k1 c1 env1 h1 => ?_
  cases k with
  | true => exact iteT ⟨H0, m0, f, σ0, ρ, cs1, m1, k1, ag, env1, c1, h1⟩
  | false => exact iteF ⟨H0, m0, f, σ0, ρ, cs1, m1, k1, ag, env1, c1, h1⟩
theorem while_ok {e : Mi.Ex} {b : Mi.Ss} (h : tS O K CA Wx wr (.while e b) D σ H) : tWhile (tTs O K CA Wx e) (tSs O K CA Wx wr b) D σ H := by
  obtain ⟨H0, m0, f, σ0, ρ, cs, m, kp, ag, env, c, h⟩ := h
  rw [Mi.run] at h
  refine ⟨fun k σ H => ∃ ρ cs m, Keep H0 H m0 m ∧ Agree wr σ0 σ ∧ EnvR K H m f ρ σ ∧ Cells K H m f cs ∧ Rw (ZSm K CA Wx wr H0 m0 f σ0) (Mi.whGo (fun ρ cs => Mi.test O ρ e cs) (fun ρ cs => Mi.runs O b ρ cs) k ρ cs) (PSm K wr H0 m0 f σ0 D), ⟨O.fuel, ρ, cs, m, kp, ag, env, c, h⟩, ?_⟩
  rintro k σ2 H2 ⟨ρ2, cs2, m2, kp2, ag2, env2, c2, h2⟩
  cases k with
  | zero =>
    unfold Mi.whGo at h2
    exact h2.elim
  | succ k =>
    unfold Mi.whGo at h2
    refine st_T kp2 ag2 env2 c2 h2 fun t cs3 H3 m3 k3 c3 env3 h3 => ?_
    cases t with
    | false => exact iteF (h3 H3 m3 σ2 k3 ag2 env3 c3)
    | true =>
      refine iteT ⟨fun σ' H' => ∃ ρ cs m, Keep H0 H' m0 m ∧ Agree wr σ0 σ' ∧ EnvR K H' m f ρ σ' ∧ Cells K H' m f cs ∧ Rw (ZSm K CA Wx wr H0 m0 f σ0) (Mi.whGo (fun ρ cs => Mi.test O ρ e cs) (fun ρ cs => Mi.runs O b ρ cs) k ρ cs) (PSm K wr H0 m0 f σ0 D), fun σ' H' q => ⟨k, Nat.lt_succ_self k, q⟩, H0, m0, f, σ0, ρ2, cs3, m3, k3, ag2, env3, c3, ?_⟩
      have h4 : Rw (ZSm K CA Wx wr H0 m0 f σ0) ((Mi.runs O b ρ2 cs3).bind fun fl cs => (match fl with
        | .nx ρ' => Mi.whGo (fun ρ cs => Mi.test O ρ e cs) (fun ρ cs => Mi.runs O b ρ cs) k ρ' cs
        | .ct ρ' => Mi.whGo (fun ρ cs => Mi.test O ρ e cs) (fun ρ cs => Mi.runs O b ρ cs) k ρ' cs
        | .bk ρ' => .ok (.nx ρ') cs
        | .ret w => .ok (.ret w) cs)) (PSm K wr H0 m0 f σ0 D) := h3
      refine h4.bind.imp (fun _ _ z => z) fun fl cs4 h5 => ?_
      cases fl with
      | nx ρ' => exact fun H' m' σ' k' a' e' c' => ⟨ρ', cs4, m', k', a', e', c', h5⟩
      | ct ρ' => exact fun H' m' σ' k' a' e' c' => ⟨ρ', cs4, m', k', a', e', c', h5⟩
      | bk ρ' => exact h5
      | ret w => exact h5
/-! ### for -/
def Fb (O : Orc) (t : Mi.Tg) (b : Mi.Ss) (x : W) (ρ : ME) (cs : List Ob) : R Mi.Fl :=
  match Mi.put t (Mi.fz x) ρ with
  | some ρ' => Mi.runs O b ρ' cs
  | none => .bad
theorem run_for {t : Mi.Tg} {it : Mi.It} {b : Mi.Ss} : Mi.run O (.for t it b) ρ cs = (Mi.evI O ρ it cs).bind fun s cs => Mi.forS (Fb O t b) s ρ cs := by
  rw [Mi.run]
  rfl
def aft (nx : ME → List Ob → R Mi.Fl) (fl : Mi.Fl) (cs : List Ob) : R Mi.Fl :=
  match fl with
  | .nx ρ => nx ρ cs
  | .ct ρ => nx ρ cs
  | .bk ρ => .ok (.nx ρ) cs
  | .ret w => .ok (.ret w) cs
theorem for_gen {t : Mi.Tg} {b : Mi.Ss} {P : Nat → Nat → (ME → List Ob → R Mi.Fl) → Prop} {J : It} {k0 : Nat} {g0 : ME → List Ob → R Mi.Fl} (env : EnvR K H1 m1 f ρ σ1) (c1 : Cells K H1 m1 f cs) (hw : ∀ i ∈ tgIx t, i ∈ wr)
    (hP : ∀ i k g ρ cs H m, P i k g → Keep H1 H m1 m → Cells K H m f cs → g ρ cs ≠ .bad → (J.stop i H ∧ g ρ cs = .ok (.nx ρ) cs) ∨ (J.go i H ∧ ∃ x k' g', k' < k ∧ P (i + 1) k' g' ∧ g ρ cs = (Fb O t b x ρ cs).bind (aft g') ∧ ∀ v H2, J.yld i H v H2 → Keep H H2 m m ∧ Cells K H2 m f cs ∧ Rep K H2 m f x v))
    (h0 : P 0 k0 g0) (h : Rw (ZSm K CA Wx wr H1 m1 f σ1) (g0 ρ cs) (PSm K wr H1 m1 f σ1 D)) :
    ∃ Wi : Nat → Nat → LS → Hp → Prop, (∃ m, Wi 0 m σ1 H1) ∧ ∀ i m σ H, Wi i m σ H →
      (J.stop i H ∧ D.nx σ H) ∨ (J.go i H ∧ ∃ N : LS → Hp → Prop, (∀ σ' H', N σ' H' → ∃ m', m' < m ∧ Wi (i + 1) m' σ' H') ∧ ∀ x H', J.yld i H x H' → gM K t x σ H' fun σ2 H2 => tSs O K CA Wx wr b { D with nx := N, ct := N, bk := D.nx } σ2 H2) := by
  refine ⟨fun i k σ H => ∃ g ρ cs m, P i k g ∧ Keep H1 H m1 m ∧ Agree wr σ1 σ ∧ EnvR K H m f ρ σ ∧ Cells K H m f cs ∧ Rw (ZSm K CA Wx wr H1 m1 f σ1) (g ρ cs) (PSm K wr H1 m1 f σ1 D), ⟨k0, g0, ρ, cs, m1, h0, Keep.refl, Agree.refl, env, c1, h⟩, ?_⟩
  rintro i k σ H ⟨g, ρ, cs, m, hp, kp, ag, env, cc, h⟩
  have nb : g ρ cs ≠ .bad := fun e => by
    rw [e] at h
    exact h
  rcases hP i k g ρ cs H m hp kp cc nb with ⟨st, e⟩ | ⟨go, x, k', g', hk, hp', e, hy⟩
  · rw [e] at h
    exact .inl ⟨st, h H m σ kp ag env cc⟩
  · rw [e] at h
    refine .inr ⟨go, fun σ' H' => ∃ m', m' < k ∧ ∃ g ρ cs m, P (i + 1) m' g ∧ Keep H1 H' m1 m ∧ Agree wr σ1 σ' ∧ EnvR K H' m f ρ σ' ∧ Cells K H' m f cs ∧ Rw (ZSm K CA Wx wr H1 m1 f σ1) (g ρ cs) (PSm K wr H1 m1 f σ1 D), fun σ' H' q => q, fun v H2 y => ?_⟩
    obtain ⟨k2, c2, r2⟩ := hy v H2 y
    unfold Fb at h
    split at h
    · rename_i ρ' ep
      refine put_ok hw ep r2.fz (env.mono k2) fun σ2 env2 a2 => ⟨H1, m1, f, σ1, ρ', cs, m, kp.trans k2, ag.trans a2, env2, c2, h.bind.imp (fun _ _ z => z) fun fl cs4 h5 => ?_⟩
      cases fl with
      | nx ρ'' => exact fun H' m' σ' kx a' e' c' => ⟨k', hk, g', ρ'', cs4, m', hp', kx, a', e', c', h5⟩
      | ct ρ'' => exact fun H' m' σ' kx a' e' c' => ⟨k', hk, g', ρ'', cs4, m', hp', kx, a', e', c', h5⟩
      | bk ρ'' => exact h5
      | ret w => exact h5
    · exact h.elim
theorem for_ok {t : Mi.Tg} {it : Mi.It} {b : Mi.Ss} (hw : ∀ i ∈ tgIx t, i ∈ wr) (h : tS O K CA Wx wr (.for t it b) D σ H) : tFor (tI O K CA Wx it) (gM K t) (tSs O K CA Wx wr b) D σ H := by
  obtain ⟨H0, m0, f, σ0, ρ, cs, m, kp, ag, env, c, h⟩ := h
  rw [run_for] at h
  refine st_I kp ag env c h fun s cs1 J H1 m1 k1 c1 env1 lv h1 => ?_
  have h2 : Rw (ZSm K CA Wx wr H1 m1 f σ) (Mi.forS (Fb O t b) s ρ cs1) (PSm K wr H1 m1 f σ D) := h1.imp (fun _ _ z => z.mono k1 ag) fun _ _ z => z.mono k1 ag
  cases s with
  | im xs =>
    refine for_gen (P := fun i k g => k = xs.length - i ∧ i ≤ xs.length ∧ g = Mi.forGo (Fb O t b) (xs.drop i)) (k0 := xs.length) (g0 := Mi.forGo (Fb O t b) xs) env1 c1 hw (fun i k g ρ cs H m hp kp cc nb => ?_) ⟨rfl, Nat.zero_le _, rfl⟩ h2
    obtain ⟨ek, hi, eg⟩ := hp
    have hv : LiveI K xs J H1 m1 f := lv
    obtain ⟨g1, g2, g3⟩ := hv H m f cs (.of kp) cc
    by_cases hlt : i < xs.length
    · refine .inr ⟨g1 i hlt, xs[i], k - 1, Mi.forGo (Fb O t b) (xs.drop (i + 1)), by omega, ⟨by omega, hlt, rfl⟩, ?_, fun v H2 y => ?_⟩
      · rw [eg, List.drop_eq_getElem_cons hlt]
        rfl
      · obtain ⟨k2, c2, w, ew, rw'⟩ := g3 i v H2 hlt y
        rw [List.getElem?_eq_getElem hlt] at ew
        cases ew
        exact ⟨k2, c2, rw'⟩
    · have ei : i = xs.length := by omega
      subst ei
      rw [eg, List.drop_length]
      exact .inl ⟨g2, rfl⟩
  | ce n len =>
    obtain ⟨a, hm, rfl⟩ := lv
    refine for_gen (P := fun i k g => g = Mi.forCe (Fb O t b) n i k) (k0 := len) (g0 := Mi.forCe (Fb O t b) n 0 len) env1 c1 hw (fun i k g ρ cs H m hp kp cc nb => ?_) rfl h2
    have hm' := kp.get hm
    subst hp
    cases k with
    | zero =>
      unfold Mi.forCe at nb ⊢
      split at nb
      · rename_i xs ex
        split at nb
        · rename_i hi
          obtain ⟨vs, h1, h2⟩ := cc.lst hm' ex
          rw [if_pos hi]
          exact .inl ⟨⟨vs, .of h1, by rw [← h2.length]; exact hi⟩, rfl⟩
        · exact absurd rfl nb
      · exact absurd rfl nb
    | succ k =>
      cases ex : Mi.cellL cs n with
      | none =>
        refine absurd ?_ nb
        unfold Mi.forCe
        rw [ex]
      | some xs =>
        cases hx : xs[i]? with
        | none =>
          refine absurd ?_ nb
          unfold Mi.forCe
          rw [ex]
          simp only
          rw [hx]
        | some x =>
          obtain ⟨vs, h1, h2⟩ := cc.lst hm' ex
          obtain ⟨v, h3, h4⟩ := h2.get hx
          refine .inr ⟨⟨vs, v, .of h1, h3⟩, x, k, Mi.forCe (Fb O t b) n (i + 1) k, Nat.lt_succ_self _, rfl, ?_, fun u H2 y => ?_⟩
          · rw [Mi.forCe]
            rw [ex]
            simp only
            rw [hx]
            rfl
          · obtain ⟨y1, y2⟩ := y
            subst y1
            have y3 := y2 vs (.of h1)
            rw [h3] at y3
            cases y3
            exact ⟨Keep.refl, cc, h4⟩
end
theorem psImp {X : Cx} {s : Stmt} {t t' : TS} (h : PS X s t) (i : ∀ D σ H, t' D σ H → t D σ H) : PS X s t' := ⟨fun pins s σ H D I hw => h.run pins s σ H D I (i D σ H hw)⟩
theorem pssImp {X : Cx} {s : List Stmt} {t t' : TS} (h : PSs X s t) (i : ∀ D σ H, t' D σ H → t D σ H) : PSs X s t' := ⟨fun pins s σ H D I hw => h.run pins s σ H D I (i D σ H hw)⟩
end So
end S_Stmts

section S_RevList
set_option Elab.async false
set_option linter.all false
set_option maxRecDepth 100000
set_option maxHeartbeats 4000000
/-! RevList: list(reversed(list)); sorted(set(list of ints)). -/
namespace So
open PySem PySem.Spec PyProof.Rows L2
open Mi (W Ob Xn R Orc)
def emL : Obj := { cls := .type "list", data := .seq #[] }
section
variable {prog : Program} {w : World} {A : Around} {E : Value → Shared → Prop} {s : Shared}
theorem extend_rv {it l S : Addr} {items : Array Value} {res : Value} {c0 : Nat} {Rz : Result → Shared → Prop} (hh : A.handled = none) (hR : s.heap.IsRevIter it l ((items.size : Int) - 1)) (hl : s.heap.IsList l items) (hne : l ≠ it) (hSi : S ≠ it) (hSl : S ≠ l) (hn : items.size ≤ sizeLine)
    (hS : s.heap.get? S = some { cls := .type "list", data := .seq #[] c0 }) (hQ : ∀ h' tk acc c', (∀ b o, b ≠ S → b ≠ it → s.heap.get? b = some o → h'.get? b = some o) → h'.get? S = some { cls := .type "list", dict := none, data := .seq acc c', slots := #[] } → ItemsOf (fun i v => items[items.size - 1 - i]? = some v) acc items.size → Rz (.ok (.ret res)) { s with heap := h', toks := tk }) :
    wpAny (model prog w) A.in1 (Builtin.List.listExtendWith (.ref S) (.ref it) res) (fun fin s' => match fin with | .done f => Rz (.ok f) s' | .again c' => c'.quiet = true ∧ codeAny (model prog w) A c' Rz s') (fun e s' => Rz (.error e) s') s := by
  have Wk := (Walks.listRev (prog := prog) (w := w) (A := A.in1) hh it l hne items).toS
  have hSf : S ∉ [it, l] := by simp [hSi, hSl]
  have hTy : s.TypeIs (.ref it) "list_reverseiterator" := Heap.IsRevIter.typeIs hR
  have hsame : Builtin.List.listSameRef (.ref S) (.ref it) = false := by simp [Builtin.List.listSameRef, hSi]
  unfold Builtin.List.listExtendWith
  refine wpAny_bind (wpAny_typeOf hTy ?_)
  rw [if_neg (by rw [hsame]; decide)]
  refine wpAny_bind (wpAny_pyIter_revIter hR (wpAny_bind (wpAny_holding ?_)))
  unfold Builtin.List.listLengthHint
  refine wpAny_bind (wpAny_specialOf hTy RT.nolen_lri ?_)
  show wpAny _ A.in1 (do let _ ← specialOf (Value.ref it) (Str.ofString "__length_hint__"); _) _ _ _
  refine wpAny_bind (wpAny_specialOf hTy RT.hint_lri ?_)
  generalize hid : ("list_reverseiterator.__length_hint__" : String) = hint0
  wp_delta
  rw [show splitId hint0 = some ("list_reverseiterator", "__length_hint__") from by subst hid; decide +kernel]
  subst hid
  refine wpAny_bind (wpAny_isInstance (b := true) hTy (by rw [isSubtype_type]; kernel_rfl) (wpAny_pure ?_))
  rw [if_neg (by decide)]
  have ez : ((items.size : Nat) : Int) - 1 - ((0 : Nat) : Int) = (items.size : Int) - 1 := by omega
  refine wpAny_pure ⟨plainId_quiet F.plain_extend_loop _, codeAny_extend_loopS Wk hn _ hSf _ items.size 0 _ _ _ rfl (Nat.zero_le _) ⟨Nat.zero_le _, by rw [ez]; exact hR, hl⟩ hS (ItemsOf.nil _) fun s1 acc1 c1 hm hS1 ha => ?_⟩
  rw [Moved.eq_with hm]
  refine hQ s1.heap s1.toks acc1 c1 (fun b o hb hb2 e => hm.heap b o (fun z => ?_) e) hS1 ha
  rcases List.mem_cons.mp z with e' | z
  · exact hb e'
  · exact hb2 (List.mem_singleton.mp z)
theorem call_list_rv {it l : Addr} {items : Array Value} {Q : Value → Shared → Prop} (hh : A.handled = none) (hR : s.heap.IsRevIter it l ((items.size : Int) - 1)) (hl : s.heap.IsList l items) (hne : l ≠ it) (hn : items.size ≤ sizeLine)
    (hQ : ∀ h' tk acc c', (∀ b o, b ≠ it → s.heap.get? b = some o → h'.get? b = some o) → h'.get? s.heap.objs.size = some { cls := .type "list", dict := none, data := .seq acc c', slots := #[] } → ItemsOf (fun i v => items[items.size - 1 - i]? = some v) acc items.size → Q (.ref s.heap.objs.size) { s with heap := h', toks := tk }) :
    wpAny (model prog w) A (call (.type "list") [.ref it]) Q E s := by
  refine callType_codes (Q₁ := fun obj s1 => obj = .ref s.heap.objs.size ∧ s1 = { s with heap := s.heap.push emL }) F.called_list (F.typeCall_list_1 _) F.entry_list_init (code_list_new _ ⟨rfl, rfl⟩) fun obj s1 h1 => ?_
  obtain ⟨rfl, rfl⟩ := h1
  have hS : (s.heap.push emL).get? s.heap.objs.size = some emL := Heap.get?_push_size _ rfl
  refine ⟨⟨_, hS, rfl⟩, F.args_list_init_2 _ _, ?_⟩
  obtain ⟨oi, hoi, _⟩ := id hR
  obtain ⟨ol, hol, _⟩ := id hl
  have hSi : s.heap.objs.size ≠ it := Nat.ne_of_gt (Heap.lt_size hoi)
  have hSl : s.heap.objs.size ≠ l := Nat.ne_of_gt (Heap.lt_size hol)
  unfold Builtin.«list.__init__»
  show wpAny _ A.in1.in1 (do let old ← Builtin.List.listItems (.ref s.heap.objs.size); Builtin.List.listUpdate (.ref s.heap.objs.size) (fun _ => #[]); letGo old.toList.reverse; Builtin.List.listExtendWith (.ref s.heap.objs.size) (.ref it) .none) _ _ _
  refine wpAny_bind ?_
  unfold Builtin.List.listItems
  refine wpAny_bind (wpAny_seqItems hS rfl (wpAny_pure ?_))
  show wpAny _ _ (do updateSeq s.heap.objs.size (fun _ => #[]); letGo (#[] : Array Value).toList.reverse; Builtin.List.listExtendWith (.ref s.heap.objs.size) (.ref it) .none) _ _ _
  refine wpAny_bind (wpAny_updateSeq hS rfl ?_)
  have hS2 := Heap.get?_update_self (Obj.mapSeq (fun _ => (#[] : Array Value))) hS rfl
  have oth : ∀ b o, b ≠ s.heap.objs.size → s.heap.get? b = some o → ((s.heap.push emL).update s.heap.objs.size (Obj.mapSeq (fun _ => (#[] : Array Value)))).get? b = some o :=
    fun b o hb e => (Heap.get?_update_other _ _ (Ne.symm hb)).trans (Heap.get?_push_of_some _ e)
  refine wpAny_bind (wpAny_letGo ?_)
  refine extend_rv (A := A.in1) (c0 := 0) hh (hR.at fun o e => oth _ o (Ne.symm hSi) e) ?_ hne hSi hSl hn hS2 fun h' tk acc c' hk hS' ha => ⟨rfl, hQ h' tk acc c' (fun b o hb e => hk b o (Nat.ne_of_lt (Heap.lt_size e)) hb (oth b o (Nat.ne_of_lt (Heap.lt_size e)) e)) hS' ha⟩
  obtain ⟨o, ho, r⟩ := hl
  exact ⟨o, oth _ o (Ne.symm hSl) ho, r⟩
end
/-- list(reversed(x)), x a list: a new list -/
def tLstRev (K : PySem.W.Frag) (te : TE) : TE := fun σ H Q => te σ H fun v H1 => ∃ (a : Addr) (xs : List V), v = .ref a ∧ SqL K H1 a xs ∧ ∀ q, H1 q = none → Q (.ref q) (upd H1 q (.lst xs.reverse))
section
variable {X : Cx}
theorem pe_lstRev {e : Expr} {te : TE} {p p2 pos pos2 : Pos} (hc : X.calm = true) (hg : Gl X "list") (hm : X.mg "list" = none) (hg2 : Gl X "reversed") (hm2 : X.mg "reversed" = none) (he : PE X e te) (hs : starEach [e] X.env = (false, eval e X.env) :: starEach [] X.env) :
    PE X (.Call (.Name "list" p) [.Call (.Name "reversed" p2) [e] [] pos2] [] pos) (tLstRev X.K te) := by
  have hs2 : starEach [.Call (.Name "reversed" p2) [e] [] pos2] X.env = (false, eval (.Call (.Name "reversed" p2) [e] [] pos2) X.env) :: starEach [] X.env := rfl
  refine ⟨fun pins s σ H Q I h => ?_⟩
  refine Call_ (ld_blt I hg hm boot_list (callWith_type1 (args_cons (Call_ (ld_blt I hg2 hm2 boot_reversed (callWith_type1 (args_cons (thn (he.run pins s σ H _ I h) fun u s1 ⟨v, H1, I1, r1, q1⟩ => args_nil ?_) hs) hs rfl))) hs2) hs2 rfl))
  obtain ⟨a, xs, ev, hq, q⟩ := q1
  subst ev
  obtain rfl : u = Value.ref a := r1
  obtain ⟨its, rv, p', hz⟩ := I1.list hq
  refine call_reversed_list p'.isList (args_nil ?_)
  have I2 : Inv X pins σ H1 { s1 with heap := s1.heap.push (revObj a ((its.toArray.size : Int) - 1)) } := I1.kept (t' := s1.toks) fun b o e => Heap.get?_push_of_some _ e
  obtain ⟨f0, f1, f2, f3, f4, f5⟩ := I1.fpOk (H' := H1) (b := s1.heap.objs.size) (Nat.le_refl _) (I1.hok.fresh (Nat.le_refl _))
  obtain ⟨ol, hol, _⟩ := id p'.isList
  have hne : a ≠ s1.heap.objs.size := Nat.ne_of_lt (Heap.lt_size hol)
  have hn : its.toArray.size ≤ sizeLine := by rw [List.size_toArray, ← rv.length]; exact hz
  refine call_list_rv (s := { s1 with heap := s1.heap.push (revObj a ((its.toArray.size : Int) - 1)) }) (I1.ok.hd hc) ⟨_, Heap.get?_push_size _ rfl, rfl, rfl⟩ (p'.isList.push _) hne hn fun h' tk acc c' hk hS hi => ?_
  have old : ∀ b o, s1.heap.get? b = some o → h'.get? b = some o := fun b o e => hk b o (Nat.ne_of_lt (Heap.lt_size e)) (Heap.get?_push_of_some _ e)
  have hsz : s1.heap.objs.size ≤ (s1.heap.push (revObj a ((its.toArray.size : Int) - 1))).objs.size := by
    rw [Heap.size_push]
    exact Nat.le_succ _
  refine ⟨.ref _, upd H1 _ (.lst xs.reverse), I1.laid (t' := tk) old hsz (show ObjOk X.prog X.w _ _ _ (.lst xs.reverse) from ⟨by rw [List.length_reverse]; exact hz, acc.toList, c', RT.vals_rev rv hi, ?_⟩), rfl, q _ (I1.hok.fresh hsz)⟩
  rw [Array.toArray_toList]
  exact hS
/-- sorted(set(x)), x a list of ints, fewer than 64 -/
def tSortS (K : PySem.W.Frag) (te : TE) : TE := fun σ H Q => te σ H fun v H1 => ∃ (a : Addr) (ns : List Int), v = .ref a ∧ SqL K H1 a (ns.map V.int) ∧ ns.length < 64 ∧ ∀ (ms : List Int) (q : Addr), ms.Pairwise (· < ·) → (∀ k : Int, k ∈ ms ↔ k ∈ ns) → H1 q = none → Q (.ref q) (upd H1 q (.lst (ms.map V.int)))
end
end So
end S_RevList

section S_SetList
set_option Elab.async false
set_option linter.all false
set_option maxRecDepth 100000
set_option maxHeartbeats 4000000
/-! SetList: set(list of ints), for sorted. -/
namespace So
open PySem PySem.Spec PyProof.Rows L2
open Mi (W Ob Xn R Orc)
def emS (w : World) : Obj := { cls := .type "set", dict := none, data := .set #[] 0 (.fresh 0 0 (!w.params.followText "set-order")) }
section
variable {P : Program} {w : World} {A : Around} {E : Value → Shared → Prop} {s : Shared}
theorem set_init_list {l S : Addr} {items : Array Value} (ns : List Int) {Rz : Result → Shared → Prop} (hh : A.handled = none) (hl : s.heap.IsList l items) (hit : IntsAre items.toList ns) (hb : ns.length + 1 < scanBound) (hS : s.heap.get? S = some (emS w)) (hlS : l ≠ S)
    (hR : ∀ (h' : Heap) (tk c : Nat), SetR w h' S (fun j => decide (j ∈ ns)) c → c ≤ ns.length → (∀ b o, b ≠ S → s.heap.get? b = some o → h'.get? b = some o) → Rz (.ok (.ret .none)) { s with heap := h', toks := tk }) :
    wpAny (model P w) A.in1 (Builtin.«set.__init__» ⟨[.ref S, .ref l], []⟩) (fun fin s' => match fin with | .done f => Rz (.ok f) s' | .again c' => c'.quiet = true ∧ codeAny (model P w) A c' Rz s') (fun e s' => Rz (.error e) s') s := by
  have hsz : items.size = ns.length := (Array.length_toList (xs := items)).symm.trans hit.length
  obtain ⟨ol, hol, hcl, nl, hdl⟩ := hl
  obtain ⟨ocls, odict, odata, oslots⟩ := ol
  simp only at hcl hdl
  subst hcl
  subst hdl
  have q1 := F.sub_list_set
  have q2 := F.sub_list_frozenset
  have q3 : (Value.type "list" == Value.type "dict") = false := by decide
  have hl1 : s.heap.IsList l items := ⟨_, hol, rfl, nl, rfl⟩
  unfold Builtin.«set.__init__» noKeywords Builtin.Frozenset.updateFrom
  generalize hPI : pyIter = PI
  wp_walk
  subst hPI
  refine wpAny_pyIter_list hl1 (wpAny_bind (wpAny_runValue ?_))
  have hI : l ≠ s.heap.objs.size := Nat.ne_of_lt (Heap.lt_size hol)
  have hSI : S ≠ s.heap.objs.size := Nat.ne_of_lt (Heap.lt_size hS)
  have hSf : S ∉ [s.heap.objs.size, l] := by simp [hSI, Ne.symm hlS]
  have hval : ∀ (i : Nat) (v : Value), items[i]? = some v → ∃ k t, ns[i]? = some k ∧ v = .int k t := fun i v hv => by
    have hi : i < ns.length := hsz ▸ (Array.getElem?_eq_some_iff.mp hv).1
    obtain ⟨t, e⟩ := IntsAre.int_at hit i v (by rw [Array.getElem?_toList]; exact hv)
    exact ⟨ns[i], t, List.getElem?_eq_getElem hi, by rw [e, List.getD_eq_getElem?_getD, List.getElem?_eq_getElem hi]; rfl⟩
  have hh3 : A.in1.in1.handled = none := by simp [hh]
  refine set_update_ints (Walks.list hh3 _ l hI items).toS S hSf ns hsz hb hval (items.size - 0) 0 _ (by omega) (Nat.zero_le _) ⟨⟨_, Heap.get?_push_size _ rfl, rfl, rfl⟩, hl1.push _⟩ ⟨0, Nat.le_refl 0, setR_new_at (Heap.get?_push_of_some _ hS)⟩ fun s' c' hm hc' hS' => ?_
  obtain ⟨h', g2, d', tk', os'⟩ := s'
  have eg : g2 = s.gens := hm.gens
  have ed : d' = s.drawn := hm.drawn
  have eo : os' = s.os := hm.os
  subst eg ed eo
  refine wpAny_pure (wpAny_pure (hR h' tk' c' hS' (by rw [← hsz]; exact hc') fun b o hb e => hm.heap b o (fun z => ?_) (Heap.get?_push_of_some _ e)))
  rcases List.mem_cons.mp z with z | z
  · exact hb z
  · exact absurd (Heap.lt_size e) (by rw [List.mem_singleton.mp z]; exact Nat.lt_irrefl _)
theorem call_set_listI {l : Addr} {items : Array Value} (ns : List Int) {Q : Value → Shared → Prop} (hh : A.handled = none) (hl : s.heap.IsList l items) (hit : IntsAre items.toList ns) (hb : ns.length + 1 < scanBound)
    (h : ∀ (h' : Heap) (tk c : Nat), SetR w h' s.heap.objs.size (fun j => decide (j ∈ ns)) c → c ≤ ns.length → (∀ b o, s.heap.get? b = some o → h'.get? b = some o) → Q (.ref s.heap.objs.size) { s with heap := h', toks := tk }) :
    wpAny (model P w) A (call (.type "set") [.ref l]) Q E s := by
  have q3 := F.called_set.notType
  have q4 := F.called_set.canCreate
  have q5 := F.typeCall_set_1 (.ref l)
  have q6 := F.called_set.made
  have q7 := F.called_set.sub
  obtain ⟨c0, tl0, q8⟩ := F.called_set.mro
  have hlS : l ≠ s.heap.objs.size := by
    obtain ⟨o, ho, _⟩ := id hl
    exact Nat.ne_of_lt (Heap.lt_size ho)
  have hS : (s.heap.push (emS w)).get? s.heap.objs.size = some (emS w) := Heap.get?_push_size _ rfl
  have hT : Shared.TypeIs { s with heap := s.heap.push (emS w) } (.ref s.heap.objs.size) "set" := ⟨_, hS, rfl⟩
  refine wpAny_call (codeAny_of_tree (show wpAny _ _ (callAny (.type "set") _) _ _ _ from wpAny_pure ⟨Code.quiet_builtin _ (by decide +kernel), codeAny_builtin F.entry_type_call ?_⟩))
  rw [Around.under_plain (weight_type_call_type "set" [.ref l] []) rfl]
  repeat any_goals first | assumption | wp_step
  refine codeAny_mono (code_set_led1 (.ref l) (E := E) (Q₁ := fun ob s1 => ob = .ref s.heap.objs.size ∧ s1 = { s with heap := s.heap.push (emS w) }) ⟨rfl, rfl⟩) fun r s1 hr => ?_
  match r, hr with
  | .error _, hr => exact hr
  | .ok .next, hr => exact hr.elim
  | .ok .brk, hr => exact hr.elim
  | .ok .cont, hr => exact hr.elim
  | .ok (.ret obj), hr =>
    obtain ⟨rfl, rfl⟩ := hr
    have q9 := F.called_set.init.lookup
    have q10 := F.called_set.init.bind (.ref s.heap.objs.size)
    repeat any_goals first | assumption | wp_step
    refine codeAny_mono (codeAny_call_builtin (R := wants (fun r s2 => r = .none ∧ Q (.ref s.heap.objs.size) s2) E) F.called_set.init.plain F.entry_set_init (check_set_init_1 hT ?_)) fun r2 s2 hr2 => ?_
    · exact set_init_list (s := { s with heap := s.heap.push (emS w) }) ns hh (hl.push _) hit hb hS hlS fun h' tk c r hc hk => ⟨rfl, h h' tk c r hc fun b o e => hk b o (Nat.ne_of_lt (Heap.lt_size e)) (Heap.get?_push_of_some _ e)⟩
    · match r2, hr2 with
      | .error _, hr2 => exact hr2
      | .ok .next, hr2 => exact hr2.elim
      | .ok .brk, hr2 => exact hr2.elim
      | .ok .cont, hr2 => exact hr2.elim
      | .ok (.ret v2), hr2 =>
        obtain ⟨rfl, hq⟩ := hr2
        repeat any_goals first | assumption | wp_step
end
section
variable {X : Cx}
theorem pe_sortS {e : Expr} {te : TE} {p p2 pos pos2 : Pos} (hc : X.calm = true) (hg : Gl X "sorted") (hm : X.mg "sorted" = none) (hg2 : Gl X "set") (hm2 : X.mg "set" = none) (he : PE X e te) (hs : starEach [e] X.env = (false, eval e X.env) :: starEach [] X.env) :
    PE X (.Call (.Name "sorted" p) [.Call (.Name "set" p2) [e] [] pos2] [] pos) (tSortS X.K te) := by
  have hs2 : starEach [.Call (.Name "set" p2) [e] [] pos2] X.env = (false, eval (.Call (.Name "set" p2) [e] [] pos2) X.env) :: starEach [] X.env := rfl
  refine ⟨fun pins s σ H Q I h => ?_⟩
  refine Call_ (ld_blt I hg hm boot_sorted (callWith_builtin1 (args_cons (Call_ (ld_blt I hg2 hm2 boot_set (callWith_type1 (args_cons (thn (he.run pins s σ H _ I h) fun u s1 ⟨v, H1, I1, r1, q1⟩ => args_nil ?_) hs) hs rfl))) hs2) hs2 rfl))
  obtain ⟨a, ns, ev, hq, h64, q⟩ := q1
  subst ev
  obtain rfl : u = Value.ref a := r1
  obtain ⟨its, rv, pl, hz⟩ := I1.list hq
  have hit : IntsAre its.toArray.toList ns := by simpa using RZ.intsAre_vals rv
  refine call_set_listI (w := X.w) ns (I1.ok.hd hc) pl.isList hit (by unfold scanBound; omega) fun h' tk c Rs hcn hk => args_nil ?_
  have I2 : Inv X pins σ H1 { s1 with heap := h', toks := tk } := I1.kept hk
  refine sorted_set (s := { s1 with heap := h', toks := tk }) Rs (I1.ok.hd hc) (by omega) fun s' p out cc ms k g o hp hgp hi hsr hm hl => ?_
  have hlen : (ms.map V.int).length ≤ sizeLine := by rw [List.length_map, hl, sizeLine_eq]; omega
  have hn : H1 p = none := I2.hok.fresh hp
  have k' : ∀ b u, s1.heap.get? b = some u → s'.heap.get? b = some u := fun b u e => k b u (hk b u e)
  have hp' : s1.heap.objs.size ≤ p := Nat.le_trans (Nat.le_of_lt Rs.lt) hp
  have J : Inv X pins σ (upd H1 p (.lst (ms.map V.int))) { s1 with heap := s'.heap, gens := s'.gens, drawn := s'.drawn, toks := s'.toks } :=
    I1.call (ch := []) (Un.laid k' hp' hn) (I1.hok.laid k' hp' ⟨hlen, out.toList, cc, vals_of_ints hi, hgp⟩) (by rw [g]; exact I1.bare) (fun _ z => nomatch z)
  have es : s' = { s1 with heap := s'.heap, gens := s'.gens, drawn := s'.drawn, toks := s'.toks } := by
    cases s'
    cases s1
    cases o
    rfl
  rw [es]
  exact ⟨.ref p, _, J, rfl, q ms p hsr (fun j => (hm j).trans decide_eq_true_iff) hn⟩
/-! ### the rules -/
theorem onceI_mem : ∀ (xs : List Int) (k : Int), k ∈ Mi.onceI xs ↔ k ∈ xs
  | [], k => Iff.rfl
  | x :: xs, k => by
    unfold Mi.onceI
    split
    · rename_i h
      rw [onceI_mem xs k, List.mem_cons]
      exact ⟨.inr, fun z => z.elim (fun e => by rw [e]; exact List.contains_iff_mem.mp h) id⟩
    · rw [List.mem_cons, List.mem_cons, onceI_mem xs k]
theorem onceI_nd : ∀ xs : List Int, (Mi.onceI xs).Nodup
  | [] => List.nodup_nil
  | x :: xs => by
    unfold Mi.onceI
    split
    · exact onceI_nd xs
    · rename_i h
      refine List.nodup_cons.mpr ⟨fun z => h ?_, onceI_nd xs⟩
      exact List.contains_iff_mem.mpr ((onceI_mem xs x).mp z)
theorem lt_of_srt : ∀ {xs : List Int}, xs.Pairwise (· ≤ ·) → xs.Nodup → xs.Pairwise (· < ·)
  | [], _, _ => .nil
  | x :: xs, h, n => by
    rw [List.pairwise_cons] at h ⊢
    rw [List.nodup_cons] at n
    refine ⟨fun y hy => ?_, lt_of_srt h.2 n.2⟩
    have := h.1 y hy
    have : x ≠ y := fun e => n.1 (by rw [e]; exact hy)
    omega
theorem lt_uniq : ∀ {xs ys : List Int}, xs.Pairwise (· < ·) → ys.Pairwise (· < ·) → (∀ k, k ∈ xs ↔ k ∈ ys) → xs = ys
  | [], [], _, _, _ => rfl
  | [], y :: ys, _, _, h => absurd ((h y).mpr List.mem_cons_self) (by simp)
  | x :: xs, [], _, _, h => absurd ((h x).mp List.mem_cons_self) (by simp)
  | x :: xs, y :: ys, hx, hy, h => by
    rw [List.pairwise_cons] at hx hy
    have e : x = y := by
      rcases List.mem_cons.mp ((h x).mp List.mem_cons_self) with z | z
      · exact z
      · rcases List.mem_cons.mp ((h y).mpr List.mem_cons_self) with z' | z'
        · exact z'.symm
        · have := hx.1 y z'
          have := hy.1 x z
          omega
    subst e
    rw [lt_uniq hx.2 hy.2 fun k => ?_]
    constructor
    · intro hk
      rcases List.mem_cons.mp ((h k).mp (List.mem_cons_of_mem _ hk)) with z | z
      · have := hx.1 k hk
        omega
      · exact z
    · intro hk
      rcases List.mem_cons.mp ((h k).mpr (List.mem_cons_of_mem _ hk)) with z | z
      · have := hy.1 k hk
        omega
      · exact z
theorem sortS_uniq {ms ns : List Int} (h : ms.Pairwise (· < ·)) (hm : ∀ k, k ∈ ms ↔ k ∈ ns) : ms = Mi.sortI (Mi.onceI ns) := by
  have p := sortI_perm (Mi.onceI ns)
  refine lt_uniq h (lt_of_srt (sortI_srt _) (p.nodup_iff.mpr (onceI_nd ns))) fun k => ?_
  rw [hm k, p.mem_iff, onceI_mem]
variable {O : Orc} {CA : Nat → Addr} {Wx : WX} {a : Expr} {ea : Mi.Ex} {p p2 pos pos2 : Pos}
theorem te_listR (hc : X.calm = true) (hg : Gl X "list") (hm : X.mg "list" = none) (hg2 : Gl X "reversed") (hm2 : X.mg "reversed" = none) (ha : PE X a (tE O X.K CA Wx ea)) (hs : starEach [a] X.env = (false, eval a X.env) :: starEach [] X.env) :
    PE X (.Call (.Name "list" p) [.Call (.Name "reversed" p2) [a] [] pos2] [] pos) (tE O X.K CA Wx (.listR ea)) :=
  peImp (pe_lstRev hc hg hm hg2 hm2 ha hs) fun σ H Q ⟨ρ, cs, m, f, env, c, h⟩ => by
    rw [Mi.ev] at h
    refine tE_then env c h fun w cs1 v H1 m1 k1 o1 env1 h1 => ?_
    split at h1
    · rename_i xs e
      obtain ⟨a, vs, ev, hl, rs⟩ := rep_itemsL o1.cells o1.rep e
      refine ⟨a, vs, ev, .of hl, fun q hq => h1 _ _ m1 (k1.trans (Keep.new hq)) ((out_new o1.cells hq rs.reverse).back k1)⟩
    · exact h1.elim
theorem te_sortS (hc : X.calm = true) (hg : Gl X "sorted") (hm : X.mg "sorted" = none) (hg2 : Gl X "set") (hm2 : X.mg "set" = none) (ha : PE X a (tE O X.K CA Wx ea)) (hs : starEach [a] X.env = (false, eval a X.env) :: starEach [] X.env) :
    PE X (.Call (.Name "sorted" p) [.Call (.Name "set" p2) [a] [] pos2] [] pos) (tE O X.K CA Wx (.sortS ea)) :=
  peImp (pe_sortS hc hg hm hg2 hm2 ha hs) fun σ H Q ⟨ρ, cs, m, f, env, c, h⟩ => by
    rw [Mi.ev] at h
    refine tE_then env c h fun w cs1 v H1 m1 k1 o1 env1 h1 => ?_
    split at h1
    · rename_i ns e
      split at h1
      · rename_i h64
        cases ei : Mi.itemsL cs1 w with
        | none =>
          rw [ei] at e
          cases e
        | some xs =>
          rw [ei] at e
          obtain ⟨a, vs, ev, hl, rs⟩ := rep_itemsL o1.cells o1.rep ei
          have evs := intsW_of rs e
          subst evs
          refine ⟨a, ns, ev, .of hl, h64, fun ms q hms hmm hq => ?_⟩
          have em := sortS_uniq hms hmm
          subst em
          exact h1 _ _ m1 (k1.trans (Keep.new hq)) ((out_new o1.cells hq (Reps.ints _)).back k1)
      · exact h1.elim
    · exact h1.elim
end
end So
end S_SetList

section S_Check
set_option Elab.async false
set_option linter.all false
set_option maxRecDepth 100000
set_option maxHeartbeats 4000000
/-! Check: a mini tree against the text. -/
namespace So
open PySem PySem.Spec PyProof.Rows L2
open Mi (W Ob Xn R Orc)
/-- the error classes by their numbers: those that are raised (with their field), those that are named (with their raised subclasses), all that are raised, all fields -/
structure Xt where
  xc : Str → Option (Nat × Str) := fun _ => none
  xm : Str → Option (List Nat) := fun _ => none
  al : List Nat := []
  fl : List Str := []
/-- what the checker knows of the names of the module -/
structure Tb where
  gl : Str → Bool
  df : Str → Option Nat
  kw : Str → List Str → List Nat → Bool
  x : Xt := {}
structure Cc where
  N : List Str
  sc : Scope
  fn : Str → Bool
def locC (c : Cc) (x : Str) : Bool := match c.sc.names.lookup x with
  | some .local => true
  | _ => false
def visC (c : Cc) (x : Str) : Bool := match c.sc.names.lookup x with
  | some .local => true
  | some .cell => true
  | some .free => true
  | _ => false
def glC (c : Cc) (x : Str) : Bool := match c.sc.names.lookup x with
  | some .globalImplicit => true
  | _ => false
def okN (x : Str) : Bool := !(x == ("__debug__" : Str)) && !(x == ("__classdict__" : Str)) && !(x == ("__name__" : Str))
def slotC (c : Cc) (i : Nat) (x : Str) : Bool := decide (c.N[i]? = some x)
/-- a name that is stored to -/
def stoC (c : Cc) (i : Nat) (x : Str) : Bool := slotC c i x && (match c.sc.names.lookup x with
  | some .local => true
  | some .cell => c.fn x
  | _ => false)
def isOp : Mi.Bop → Operator → Bool
  | .add, .Add => true
  | .sub, .Sub => true
  | .mul, .Mult => true
  | .fdiv, .FloorDiv => true
  | .mod, .Mod => true
  | .pow, .Pow => true
  | .shl, .LShift => true
  | .shr, .RShift => true
  | .band, .BitAnd => true
  | .bor, .BitOr => true
  | .bxor, .BitXor => true
  | _, _ => false
def isCop : Mi.Cop → CmpOp → Bool
  | .eq, .Eq => true
  | .ne, .NotEq => true
  | .lt, .Lt => true
  | .le, .LtE => true
  | .gt, .Gt => true
  | .ge, .GtE => true
  | .isin, .In => true
  | .notin, .NotIn => true
  | .isN, .Is => true
  | .notN, .IsNot => true
  | _, _ => false
theorem isOp_eq {a : Mi.Bop} {o : Operator} (h : isOp a o = true) : o = bopOf a := by
  cases a <;> cases o <;> first | rfl | cases h
theorem isCop_eq {a : Mi.Cop} {o : CmpOp} (h : isCop a o = true) : o = copOf a := by
  cases a <;> cases o <;> first | rfl | cases h
def bltN : Mi.Blt → Str
  | .len => "len" | .abs => "abs" | .int => "int" | .max2 => "max" | .max1 => "max" | .min2 => "min" | .min1 => "min" | .sum => "sum" | .any => "any" | .all => "all" | .sorted => "sorted" | .list => "list" | .tuple => "tuple" | .lenSet => "len" | .sortSet => "sorted" | .strI => "str"
def bltNs : List Str := ["len", "abs", "int", "max", "min", "sum", "any", "all", "sorted", "list", "tuple", "isinstance", "bool", "str", "range", "enumerate", "zip", "reversed", "set"]
def noStar : Expr → Bool
  | .Starred .. => false
  | _ => true
theorem star_cons {e : Expr} {es : List Expr} {env : PySem.Env} (h : noStar e = true) : starEach (e :: es) env = (false, eval e env) :: starEach es env := by
  cases e <;> first | rfl | cases h
/-- a test whose truth is its value's -/
def plainT : Expr → Bool
  | .UnaryOp .Not _ _ => false
  | .BoolOp .. => false
  | .IfExp .. => false
  | .Compare .. => false
  | _ => true
theorem plainT_ok {e : Expr} {env : PySem.Env} (h : plainT e = true) : ∀ whole, isTrue e env whole = (do let v ← whole; standAt e.pos; holding [v] (truthy v)) := by
  intro whole
  cases e <;> first | rfl | (cases h; done) | skip
  rename_i op _ _
  cases op <;> first | rfl | cases h
def isBo : Expr → Bool
  | .BoolOp .. => true
  | _ => false
theorem plainT_bo {e : Expr} (h : plainT e = true) : isBo e = false := by
  cases e <;> first | rfl | cases h
def noSlice : Expr → Bool
  | .Slice .. => false
  | _ => true
theorem noSlice_ok {e : Expr} (h : noSlice e = true) : PlainIx e := fun o i => by
  cases e <;> first | rfl | cases h
def noSet : Expr → Bool
  | .Set .. => false
  | _ => true
theorem noSet_ok {e : Expr} {env : PySem.Env} (h : noSet e = true) : ∀ x, foldedSetIterable e env x = pure x := fun x => by
  cases e <;> first | rfl | cases h
def noCall : Expr → Bool
  | .Call .. => false
  | _ => true
theorem noCall_ok {e : Expr} {env : PySem.Env} {attr : Str} {t : Sem Value} (h : noCall e = true) : attributeBase e attr env t = t := by
  cases e <;> first | rfl | cases h
def noComp : Expr → Bool
  | .ListComp .. => false
  | .SetComp .. => false
  | .DictComp .. => false
  | _ => true
theorem noComp_ok {e : Expr} {tg : Option Expr} {n : Nat} {env : PySem.Env} (h : noComp e = true) : swapsWith e tg n env = pure false := by
  cases e <;> first | rfl | cases h
def mthN : Mi.Mth → Str
  | .append => "append" | .pop => "pop" | .popAt => "pop" | .extend => "extend" | .remove => "remove"
/-- whether a def of that number -/
def isDf (T : Tb) (x : Str) (f : Nat) : Bool := match T.df x with
  | some n => n == f
  | none => false
def tgNs (c : Cc) : List Nat → List Expr → Bool
  | [], [] => true
  | i :: is, .Name x _ :: es => stoC c i x && tgNs c is es
  | _, _ => false
def kG (c : Cc) (t : Mi.Tg) (e : Expr) : Bool := match t, e with
  | .nm i, .Name x _ => stoC c i x
  | .tp is, .Tuple es _ _ => tgNs c is es
  | _, _ => false
def isTup : Expr → Bool
  | .Tuple .. => true
  | _ => false
/-- the context of a comprehension -/
def blkCc (c : Cc) (scope : Scope) : Cc := ⟨c.N, relS scope c.sc, fun x => scope.names.lookup x == some .cell⟩
def ownN (c : Cc) (own : List Nat) : List (Str × Nat) := own.map fun i => (c.N.getD i "", i)
theorem ownN_snd (c : Cc) : ∀ own : List Nat, (ownN c own).map (·.2) = own
  | [] => rfl
  | i :: is => congrArg (i :: ·) (ownN_snd c is)
def kwNs : List Keyword → List Str
  | [] => []
  | ⟨some n, _, _⟩ :: ks => n :: kwNs ks
  | ⟨none, _, _⟩ :: ks => kwNs ks
def kwAll : List Keyword → Bool
  | [] => true
  | ⟨some _, _, _⟩ :: ks => kwAll ks
  | ⟨none, _, _⟩ :: _ => false
/-- the plain built-ins -/
def isB (b : Mi.Blt) : Bool := match b with
  | .lenSet => false
  | .sortSet => false
  | _ => true
mutual
/-- t: as a test -/
def kE (T : Tb) : Mi.Ex → Bool → Cc → Expr → Bool
  | .var i, t, c, x => (match x with
    | .Name y _ => slotC c i y && visC c y && okN y
    | _ => false)
  | .non, t, c, x => (match x with
    | .Constant .none _ _ => true
    | _ => false)
  | .bl b, t, c, x => (match x with
    | .Constant (.bool d) _ _ => b == d
    | _ => false)
  | .int i, t, c, x => (match x with
    | .Constant (.int j) _ _ => decide (i = j)
    | _ => false)
  | .str s, t, c, x => (match x with
    | .Constant (.str r) _ _ => decide (s = r)
    | _ => false)
  | .glob y, t, c, x => (match x with
    | .Name z _ => decide (y = z) && glC c z && T.gl z && okN z
    | _ => false)
  | .bin op a b, t, c, x => (match x with
    | .BinOp l o r _ => isOp op o && kE T a false c l && kE T b false c r
    | _ => false)
  | .neg a, t, c, x => (match x with
    | .UnaryOp .USub y _ => kE T a false c y
    | _ => false)
  | .not a, t, c, x => (match x with
    | .UnaryOp .Not y _ => kE T a t c y
    | _ => false)
  | .and a b, t, c, x => (match x with
    | .BoolOp .And [y, z] _ => kE T a t c y && kE T b t c z
    | .BoolOp .And (y :: z :: u :: us) p => kE T a t c y && kE T b t c (.BoolOp .And (z :: u :: us) p)
    | _ => false)
  | .or a b, t, c, x => (match x with
    | .BoolOp .Or [y, z] _ => kE T a t c y && kE T b t c z
    | .BoolOp .Or (y :: z :: u :: us) p => kE T a t c y && kE T b t c (.BoolOp .Or (z :: u :: us) p)
    | _ => false)
  | .cmp op a b, t, c, x => (match x with
    | .Compare l [o] [r] _ => isCop op o && !behindInMarks o r && kE T a false c l && kE T b false c r
    | _ => false)
  | .chain op op' a b d, t, c, x => (match x with
    | .Compare l [o, o'] [r, s] _ => isCop op o && isCop op' o' && !lastMarks [o, o'] [r, s] && kE T a false c l && kE T b false c r && kE T d false c s
    | _ => false)
  | .ifx q a b, t, c, x => (match x with
    | .IfExp y z u _ => !t && kE T q true c y && kE T a false c z && kE T b false c u
    | _ => false)
  | .callP f as, t, c, x => (match x with
    | .Call (.Name y _) (e :: es) [] _ => isDf T y f && glC c y && okN y && kAs T as c (e :: es)
    | _ => false)
  | .callH f as, t, c, x => (match x with
    | .Call (.Name y _) (e :: es) [] _ => isDf T y f && glC c y && okN y && kAs T as c (e :: es)
    | _ => false)
  | .callPK f as pm, t, c, x => (match x with
    | .Call (.Name y _) [] ks _ => isDf T y f && glC c y && okN y && T.kw y (kwNs ks) pm && kwAll ks && kKs T as c ks
    | _ => false)
  | .callHK f as pm, t, c, x => (match x with
    | .Call (.Name y _) [] ks _ => isDf T y f && glC c y && okN y && T.kw y (kwNs ks) pm && kwAll ks && kKs T as c ks
    | _ => false)
  | .blt b as, t, c, x => (match x with
    | .Call (.Name y _) (e :: es) [] _ => isB b && decide (y = bltN b) && glC c y && kAs T as c (e :: es)
    | _ => false)
  | .listI a b, t, c, x => (match x with
    | .Call (.Name y _) [.Call (.Name z _) [e, e'] [] _] [] _ => decide (y = ("list" : Str)) && glC c y && decide (z = ("range" : Str)) && glC c z && noStar e && noStar e' && kE T a false c e && kE T b false c e'
    | _ => false)
  | .listJ a, t, c, x => (match x with
    | .Call (.Name y _) [.Call (.Name z _) [e] [] _] [] _ => decide (y = ("list" : Str)) && glC c y && decide (z = ("range" : Str)) && glC c z && noStar e && kE T a false c e
    | _ => false)
  | .listR a, t, c, x => (match x with
    | .Call (.Name y _) [.Call (.Name z _) [e] [] _] [] _ => decide (y = ("list" : Str)) && glC c y && decide (z = ("reversed" : Str)) && glC c z && noStar e && kE T a false c e
    | _ => false)
  | .sortS a, t, c, x => (match x with
    | .Call (.Name y _) [.Call (.Name z _) [e] [] _] [] _ => decide (y = ("sorted" : Str)) && glC c y && decide (z = ("set" : Str)) && glC c z && noStar e && kE T a false c e
    | _ => false)
  | .meth m o as, t, c, x => (match x with
    | .Call (.Attribute e a ap) es [] p => decide (a = mthN m) && noCall e && (ap.endLine == p.line) && kE T o false c e && kAs T as c es && (match m, es with
      | .pop, [] => true
      | .popAt, [_] => true
      | .append, [_] => true
      | .extend, [_] => true
      | .remove, [_] => true
      | _, _ => false)
    | _ => false)
  | .isi a ty, t, c, x => (match x with
    | .Call (.Name y _) [e, .Name z _] [] _ => decide (y = ("isinstance" : Str)) && glC c y && decide (z = tyOf ty) && glC c z && noStar e && kE T a false c e
    | _ => false)
  | .sub a i, t, c, x => (match x with
    | .Subscript e j _ => noSlice j && kE T a false c e && kE T i false c j
    | _ => false)
  | .slice a lo hi, t, c, x => (match x with
    | .Subscript e (.Slice l h none _) _ => kE T a false c e && kO T lo c l && kO T hi c h
    | _ => false)
  | .list as, t, c, x => (match x with
    | .List es _ => kAs T as c es
    | _ => false)
  | .tuple as, t, c, x => (match x with
    | .Tuple es _ _ => kAs T as c es
    | _ => false)
  | .comp el g it cd own, t, c, x => (match x with
    | .ListComp e [⟨tg, i, ifs, 0⟩] scope _ => kI T it c tg i && noSet i && blkC c.N c.sc scope (ownN c own) && (tgIx g).all (own.contains ·) && kG (blkCc c scope) g tg && kE T el false (blkCc c scope) e && (match cd, ifs with
      | .none, [] => true
      | .some q, [y] => kE T q true (blkCc c scope) y
      | _, _ => false)
    | _ => false)
  | .comp2 el g it g1 e1 own own1, t, c, x => (match x with
    | .ListComp e [⟨tg, i, [], 0⟩, ⟨tg1, i1, [], 0⟩] scope _ => kI T it c tg i && noSet i && noSet i1 && blkC c.N c.sc scope (ownN c own) && (tgIx g).all (own.contains ·) && (tgIx g1).all (own1.contains ·) && own1.all (own.contains ·) && kG (blkCc c scope) g tg && kG (blkCc c scope) g1 tg1 && kE T e1 false (blkCc c scope) i1 && kE T el false (blkCc c scope) e
    | _ => false)
  | .cel a, t, c, x => plainT x && kE T a false c x
def kAs (T : Tb) : Mi.Exs → Cc → List Expr → Bool
  | .nil, c, es => es.isEmpty
  | .cons a as, c, es => (match es with
    | e :: es => noStar e && kE T a false c e && kAs T as c es
    | [] => false)
def kKs (T : Tb) : Mi.Exs → Cc → List Keyword → Bool
  | .nil, c, es => es.isEmpty
  | .cons a as, c, es => (match es with
    | ⟨_, e, _⟩ :: es => kE T a false c e && kKs T as c es
    | [] => false)
def kO (T : Tb) : Mi.OEx → Cc → Option Expr → Bool
  | .none, c, o => o.isNone
  | .some a, c, o => (match o with
    | some e => kE T a false c e
    | none => false)
def kI (T : Tb) : Mi.It → Cc → Expr → Expr → Bool
  | .ex a, c, tg, x => kE T a false c x
  | .range a, c, tg, x => (match x with
    | .Call (.Name y _) [e] [] _ => decide (y = ("range" : Str)) && glC c y && noStar e && kE T a false c e
    | _ => false)
  | .range2 a b, c, tg, x => (match x with
    | .Call (.Name y _) [e, e'] [] _ => decide (y = ("range" : Str)) && glC c y && noStar e && noStar e' && kE T a false c e && kE T b false c e'
    | _ => false)
  | .enum a, c, tg, x => (match x with
    | .Call (.Name y _) [e] [] _ => decide (y = ("enumerate" : Str)) && glC c y && noStar e && isTup tg && kE T a false c e
    | _ => false)
  | .zip a b, c, tg, x => (match x with
    | .Call (.Name y _) [e, e'] [] _ => decide (y = ("zip" : Str)) && glC c y && noStar e && noStar e' && isTup tg && kE T a false c e && kE T b false c e'
    | _ => false)
  | .rev a, c, tg, x => (match x with
    | .Call (.Name y _) [e] [] _ => decide (y = ("reversed" : Str)) && glC c y && noStar e && kE T a false c e
    | _ => false)
end
end So
end S_Check

section S_ExcVE
set_option Elab.async false
set_option linter.all false
set_option maxRecDepth 100000
set_option maxHeartbeats 4000000
/-! ExcVE: an own error over ValueError whose __init__ says super().__init__(text) and keeps its argument in a field. -/
namespace So
open PySem PySem.Spec PyProof.Rows L2
/-- what must be known of the class at C, its __init__ at fI -/
structure Ive (P : Program) (K : PySem.W.Frag) (C fI : Addr) (fld : Str) : Prop where
  oex : OexC K C
  iC : PySem.W.findIn K (.ref C) "__init__" = some (some (.ref fI))
  tI : PySem.W.typeIn K (.ref fI) = some (.type "function")
  noF : PySem.W.findIn K (.ref C) fld = some none
  sub : PySem.W.mroIn K C (.ref C) = some true
  sup : PySem.W.ks_superIn K C C "__init__" = some (some (.builtin "ValueError.__init__"))
  ve : PySem.W.subIn K (.ref C) (.type "ValueError") = some true
  st : PySem.W.nsIn K cStatics "thirdparty.any" = some none
  nosup : PySem.W.nsIn K mainGlobals "super" = some none
  htop : (P.main.scope.names.lookup ("super" : Str)).isSome = false
/-- the function at fI: it closes over its class's cell -/
structure Ifn (P : Program) (K : PySem.W.Frag) (C fI cc cda : Addr) (fd : FuncData) (name qual : Str) (params : Arguments) (body : List Stmt) (scope : Scope) (fld : Str) : Type where
  sn : Str
  vn : Str
  fd_ : ∃ dV kV doc pm an ct, fd = PySem.W.fnX name qual params body scope [("__class__", cc)] dV kV doc pm an (.ref cda) ct
  lk : ∃ oc od osl, K.lookup fI = some ⟨oc, od, .func fd, osl⟩
  code : PySem.W.codeIn K (.ref cda) qual = true
  file : ∃ ccl cdd vs ccs file tf, K.lookup cda = some ⟨ccl, cdd, .fields vs, ccs⟩ ∧ vs[2]? = some (.str file tf) ∧ ((P.main.file : Str) == file) = true
  cell : ∃ cl cld csl, K.lookup cc = some ⟨cl, cld, .cell (some (.ref C)), csl⟩
  sc : NdefX.NScope [sn, vn, "__class__"] [sn, vn] ["__class__"] scope ∧ scope.names.lookup ("super" : Str) = some .globalImplicit ∧ (∃ ar, (params.posonlyargs ++ params.args).head? = some ar ∧ ar.arg = sn) ∧
    (sn == ("__debug__" : Str)) = false ∧ (sn == ("__classdict__" : Str)) = false ∧ (vn == ("__debug__" : Str)) = false ∧ (vn == ("__classdict__" : Str)) = false ∧
    ∃ p0 p1 p2 msg j p3 p4 p5 p6 p7 p8 p9, (p2.endLine == p4.line) = true ∧ body = [.Expr (.Call (.Attribute (.Call (.Name "super" p0) [] [] p1) "__init__" p2) [.Constant (.str msg) j p3] [] p4) p5, .Assign [.Attribute (.Name sn p6) fld p7] (.Name vn p8) p9]
abbrev Ifn.ps {P : Program} {K : PySem.W.Frag} {C fI cc cda : Addr} {fd : FuncData} {name qual : Str} {params : Arguments} {body : List Stmt} {scope : Scope} {fld : Str} (G : Ifn P K C fI cc cda fd name qual params body scope fld) : List Str := [G.sn, G.vn]
theorem look1 {x y : Str} {a c : Addr} (e : [(x, a)].lookup y = some c) : y = x ∧ c = a := by
  rw [List.lookup_cons] at e
  cases q : y == x with
  | true =>
    rw [q] at e
    cases e
    exact ⟨eq_of_beq q, rfl⟩
  | false =>
    rw [q] at e
    cases e
section
variable {X : Cx} {pins : List (Addr × Obj)} {σ : L2.St} {H : Hp} {s : Shared} {a C u : Addr} {E : Value → Shared → Prop} {A : Around}
/-- the bound built-in __init__ is called: nothing of it is told -/
theorem mw_call {us : List Value} {Q : Value → Shared → Prop} (T : OexC X.K C) (I : Inv X pins σ H s) (e : H a = some (exo a C none)) (hu : s.heap.get? u = some (PySem.W.kxs_mw "ValueError.__init__" a)) (hl : us.length ≤ sizeLine) (h : ∀ s', Inv X pins σ H s' → Q .none s') :
    wpAny (model X.prog X.w) A (call (.ref u) us) Q E s := by
  obtain ⟨nm, q, N, bs, bm, sn, sub, ab, col, dd, k0, k1, k2, k3, k5, hC, hbm⟩ := T.cls
  obtain ⟨t1, ho⟩ := exo_at I.hok e
  have hCh := I.kIn _ _ hC
  obtain ⟨hp, g, d, t, os⟩ := s
  refine wpAny_call (codeAny_of_tree ?_)
  show wpAny _ A.in1 (callAny (.ref u) ⟨us, []⟩) _ _ _
  simp only [callAny]
  refine wpAny_bind (wpAny_load hu ?_)
  simp only [PySem.W.kxs_mw, show (Value.type "method-wrapper" == Value.type "method" || Value.type "method-wrapper" == Value.type "builtin_function_or_method" || Value.type "method-wrapper" == Value.type "method-wrapper") = true by decide, if_true]
  refine PySem.W.KFB.if_so (by decide) ?_
  refine wpAny_bind (PySem.W.check_bound_init F.excBase_ValueError.toExcCallFacts hCh ho rfl ?_)
  refine wpAny_bind (wpAny_pure (wpAny_pure ?_))
  refine ⟨plainId_quiet F.excBase_ValueError.init.plain _, codeAny_builtin F.excBase_ValueError.initEntry ?_⟩
  refine PySem.W.exc_init_tree (cls := .ref C) (t0 := t1) (dv := none) (c2 := .none) (c3 := .none) (b4 := .bool false) ho hl fun h' k he' ht' => ?_
  have J := I.write (t' := t) (x := a) (e := a) (o := exo a C none) (by rw [e]; exact True.intro) (.inl rfl) k ⟨_, he'⟩ (exo_ok he')
  have eu : upd H a (exo a C none) = H := by
    funext b
    by_cases hb : b = a
    · rw [hb, upd_same, e]
    · rw [upd_ne hb]
  rw [eu] at J
  exact h _ J
end
section
variable {X : Cx} {pins : List (Addr × Obj)} {H : Hp} {s : Shared} {a C fI cc cda L : Addr} {fd : FuncData} {name qual : Str} {params : Arguments} {body : List Stmt} {scope : Scope} {fld sn vn : Str} {y : V}
/-- super().__init__(text) within the __init__ -/
theorem super_stmt {F : NdefX.NF} {ar : Arg} {oc ccl cl : Value} {od cdd cld : Option Addr} {osl ccs csl : Array (Option Value)} {cvs : Array Value} {file : Str} {tf : Tok} {p0 p1 p2 p3 p4 p5 : Pos} {msg : Str} {j : Nat}
    (vf : Ive X.prog X.K C fI fld) (eN : X.N = [sn, vn, "__class__"]) (eE : X.env = NdefX.envF F fI L) (hcl : F.cl = [(("__class__" : Str), cc)]) (hc : F.c = cda) (lk : X.K.lookup fI = some ⟨oc, od, .func fd, osl⟩) (hsup : F.scope.names.lookup ("super" : Str) = some .globalImplicit) (hfree : F.scope.names.lookup ("__class__" : Str) = some .free) (hsn : F.scope.names.lookup sn = some .local)
    (hpar : (fd.params.posonlyargs ++ fd.params.args).head? = some ar) (har : ar.arg = sn) (lc : X.K.lookup cda = some ⟨ccl, cdd, .fields cvs, ccs⟩) (hv2 : cvs[2]? = some (.str file tf)) (hfile : ((X.prog.main.file : Str) == file) = true) (hline : (p2.endLine == p4.line) = true) (lcell : X.K.lookup cc = some ⟨cl, cld, .cell (some (.ref C)), csl⟩)
    (I : L2.Inv X [] [some (.ref a), some y, none] H s) (ha : H a = some (exo a C none)) :
    PySem.wpAt (model X.prog X.w) X.A (.func body X.env) (exec (.Expr (.Call (.Attribute (.Call (.Name "super" p0) [] [] p1) "__init__" p2) [.Constant (.str msg) j p3] [] p4) p5) X.env) (fun f s' => f = .next ∧ L2.Inv X [] [some (.ref a), some y, none] H s') X.xe s := by
  obtain ⟨prog, w, K, mg, base, A, N, s0, H0, env, outer, stack, ex, fn, calm, pn, xe⟩ := X
  dsimp only at eN eE vf lk lc hfile lcell
  subst eN eE hc
  have ok := I.ok
  have kind := ok.kind
  have hks : (NdefX.envF F fI L).kindOf "super" = some .globalImplicit := hsup
  have hkc : (NdefX.envF F fI L).kindOf "__class__" = some .free := hfree
  have hka : (NdefX.envF F fI L).kindOf ar.arg = some .local := by rw [har]; exact hsn
  have KX := I.kIn
  obtain ⟨nm, q, N, bs, bm, sns, sub, ab, col, dd, k0, k1, k2, k3, k5, hC, hbm⟩ := vf.oex.cls
  obtain ⟨t1, hx⟩ := exo_at I.hok ha
  have he : eval (.Call (.Attribute (.Call (.Name "super" p0) [] [] p1) "__init__" p2) [.Constant (.str msg) j p3] [] p4) (NdefX.envF F fI L) = (do
      let ov ← attributeBase (.Call (.Name "super" p0) [] [] p1) "__init__" (NdefX.envF F fI L) (eval (.Call (.Name "super" p0) [] [] p1) (NdefX.envF F fI L))
      standAt p2.atName
      let (f, first) ← holding [ov] (getMethod ov "__init__" (plainOf (.Call (.Name "super" p0) [] [] p1) (NdefX.envF F fI L)))
      callWith p4 f first (backTo p4 (starEach [.Constant (.str msg) j p3] (NdefX.envF F fI L))) []) := by
    rw [arm_eval_Call]
    exact bind_congr fun ov => bind_congr fun _ => mcall_line (by rfl) hline
  have hq : interactive (NdefX.envF F fI L) = false := by
    unfold interactive
    have kind' : F.scope.kind = .function := kind
    simp [NdefX.envF, PySem.W.envX, kind']
  refine PySem.ks_wpAt_Expr_any (hi := hq) (PySem.ks_wpAt_MethodCall (he := he) (PySem.ks_wpAt_super_base hks hkc (by decide) rfl (KX _ _ lk) rfl hpar rfl (KX _ _ lc) rfl hv2 hfile vf.htop ?_))
  obtain ⟨mb, hb1, hb2⟩ := I.mod.blt
  refine PySem.W.ks_loadName_global kind hks (Calls.loadGlobal_builtin (by rw [ok.glob]; exact I.mod.glob.keeps I.bk) (PySem.W.mg_none_of I.mod.kin I.mod.glob vf.nosup) (by rw [ok.blt]; exact hb1.keeps I.bk) ((hb2 "super" (by decide)).trans (by decide +kernel)) ⟨rfl, ?_⟩)
  refine wpAny_loadName_free kind hkc (by show F.cl.lookup _ = _; rw [hcl]; rfl) ⟨_, KX _ _ lcell, rfl⟩ ?_
  obtain ⟨m, hn, hl⟩ := id I.loc
  obtain ⟨us, rus, lk1⟩ := hl 0 sn (.ref a) rfl rfl (.inl hsn)
  obtain rfl : us = Value.ref a := rus
  have hms : m sn = some (Value.ref a) := by
    rcases lk1 with ⟨_, z⟩ | ⟨z, _⟩
    · exact z
    · rw [← har, hka] at z
      rcases z with z | z <;> cases z
  refine wpAny_loadName_local kind hka hn (by rw [har]; exact hms) ?_
  refine PySem.ks_wpAny_isType_cls (KX _ _ hC) rfl ⟨rfl, ?_⟩
  obtain ⟨hp, g, d, t, os⟩ := s
  refine PySem.ks_wpAny_call_super (KX _ _ hC) rfl hx rfl (fun c e => by cases e) (PySem.W.looks_mroIn KX vf.sub) (fun h' e k => ?_)
  have I1 : L2.Inv (Cx.mk prog w K mg base A [sn, vn, "__class__"] s0 H0 (NdefX.envF F fI L) outer stack ex fn calm pn xe) [] [some (.ref a), some y, none] H ⟨h', g, d, t, os⟩ := I.kept (t' := t) k
  have KX1 := I1.kIn
  have ha1 := k _ _ hx
  have J : PySem.W.InstAt h' a ({ cls := .ref C, dict := none, data := .fields #[.ref t1, .none, .none, .none, .bool false, .none] } : Obj) C none := ⟨ha1, rfl, rfl, trivial⟩
  have hcl2 : PySem.W.clsIn K C = some { name := nm, bases := bs, mro := .ref C :: bm, ns := N, qualname := q, hasDict := true, slotNames := sns, subclasses := sub, abstract := ab, collection := col, hasDel := false } := by
    unfold PySem.W.clsIn
    rw [hC] <;> rfl
  have hm := vf.sup
  unfold PySem.W.ks_superIn at hm
  rw [hcl2, Option.bind_some] at hm
  refine PySem.W.kxs_getMethod PySem.W.kxs_ValueError e (PySem.W.looks_opaque KX1 vf.st) (fun A Q E s k q => wpAny_bind ((PySem.W.looks_clsIn KX1 hcl2) A _ E s k (wpAny_pure q))) rfl KX1 hm (J.type.andThen (PySem.W.looks_subIn KX1 vf.ve)) (PySem.W.ks_ne KX1 J hcl2) (by decide) ?_
  have I2 : L2.Inv (Cx.mk prog w K mg base A [sn, vn, "__class__"] s0 H0 (NdefX.envF F fI L) outer stack ex fn calm pn xe) [] [some (.ref a), some y, none] H ⟨h'.push (PySem.W.kxs_mw "ValueError.__init__" a), g, d, t + 1, os⟩ := I1.kept (t' := t + 1) fun b o e => Heap.get?_push_of_some _ e
  have hu : (h'.push (PySem.W.kxs_mw "ValueError.__init__" a)).get? h'.objs.size = some (PySem.W.kxs_mw "ValueError.__init__" a) := Heap.get?_push_size _ rfl
  have I3 : L2.Inv (Cx.mk prog w K mg base A [sn, vn, "__class__"] s0 H0 (NdefX.envF F fI L) outer stack ex fn calm pn xe) [(h'.objs.size, PySem.W.kxs_mw "ValueError.__init__" a)] [some (.ref a), some y, none] H ⟨h'.push (PySem.W.kxs_mw "ValueError.__init__" a), g, d, t + 1, os⟩ := by
    obtain ⟨f0, f1, f2, _⟩ := I1.fpOk (b := h'.objs.size) (Nat.le_refl _) (I1.hok.fresh (Nat.le_refl _))
    refine I2.pins_of fun p hp => ?_
    obtain rfl : p = (h'.objs.size, PySem.W.kxs_mw "ValueError.__init__" a) := by simpa using hp
    exact ⟨hu, f0, f1, f2, fun v e => by cases e⟩
  have pa := pa_cons (X := Cx.mk prog w K mg base A [sn, vn, "__class__"] s0 H0 (NdefX.envF F fI L) outer stack ex fn calm pn xe) (pe_str (x := msg) (j := j) (pos := p3)) pa_nil (by rfl)
  refine PySem.W.kxs_callWith (i := "ValueError.__init__") (x := a) (by rfl) (Calls.evalArgs_plain ?_)
  refine thn (pa.run p4 _ _ _ H (fun vs H1 => H1 = H ∧ vs = [.str msg]) I3 ⟨rfl, rfl⟩) fun us s1 h1 => ?_
  obtain ⟨vs, H1, I4, r, rfl, rfl⟩ := h1
  refine ⟨(I4.pin (h'.objs.size, PySem.W.kxs_mw "ValueError.__init__" a) (List.mem_append_right _ (by simp))).1, ?_⟩
  refine mw_call vf.oex I4 ha (I4.pin (h'.objs.size, PySem.W.kxs_mw "ValueError.__init__" a) (List.mem_append_right _ (by simp))).1 (by show us.length ≤ sizeLine; rw [← r.length, sizeLine_eq]; simp) fun s2 I5 => ?_
  exact ⟨rfl, I5.pins_of fun p hp => nomatch hp⟩
/-- the two statements -/
theorem init_body {ar : Arg} {oc ccl cl : Value} {od cdd cld : Option Addr} {osl ccs csl : Array (Option Value)} {cvs : Array Value} {file : Str} {tf : Tok} {p0 p1 p2 p3 p4 p5 p6 p7 p8 p9 : Pos} {msg : Str} {j : Nat}
    {P : Program} {w : World} {K : PySem.W.Frag} {mg : Str → Option Value} {base : Heap} {A : Around} {outer : List Env} {s0 : Shared} {H : Hp} {E : XK} {Q : VK}
    (vf : Ive P K C fI fld) (lk : K.lookup fI = some ⟨oc, od, .func fd, osl⟩) (hsup : scope.names.lookup ("super" : Str) = some .globalImplicit)
    (hpar : (fd.params.posonlyargs ++ fd.params.args).head? = some ar) (har : ar.arg = sn) (d1 : (sn == ("__debug__" : Str)) = false) (d2 : (sn == ("__classdict__" : Str)) = false) (d3 : (vn == ("__debug__" : Str)) = false) (d4 : (vn == ("__classdict__" : Str)) = false)
    (S : NdefX.NScope [sn, vn, "__class__"] [sn, vn] ["__class__"] scope) (lc : K.lookup cda = some ⟨ccl, cdd, .fields cvs, ccs⟩) (hv2 : cvs[2]? = some (.str file tf)) (hfile : ((P.main.file : Str) == file) = true) (lcell : K.lookup cc = some ⟨cl, cld, .cell (some (.ref C)), csl⟩)
    (hline : (p2.endLine == p4.line) = true)
    (hbody : body = [.Expr (.Call (.Attribute (.Call (.Name "super" p0) [] [] p1) "__init__" p2) [.Constant (.str msg) j p3] [] p4) p5, .Assign [.Attribute (.Name sn p6) fld p7] (.Name vn p8) p9])
    (I : L2.Inv (NdefX.ncx (L2.CX P w) P w K mg base [sn, vn, "__class__"] ⟨name, qual, params, body, scope, [("__class__", cc)], cda⟩ fI A outer s0 H E) [] [some (.ref a), some y, none] H s) (ha : H a = some (exo a C none))
    (hq : ∀ dx, H dx = none → dx ≠ a → Q .non (upd (upd H dx (exd dx [(fld, y)])) a (exo a C (some dx)))) :
    PySem.wpAt (model P w) (A.deeper (NdefX.envF ⟨name, qual, params, body, scope, [("__class__", cc)], cda⟩ fI s0.heap.objs.size)) (.func body (NdefX.envF ⟨name, qual, params, body, scope, [("__class__", cc)], cda⟩ fI s0.heap.objs.size))
      (execs body (NdefX.envF ⟨name, qual, params, body, scope, [("__class__", cc)], cda⟩ fI s0.heap.objs.size)) (fun f s' => CR (L2.CX P w) outer P w H s0 Q E (.ok (.ret (match f with | .ret v => v | _ => .none))) s')
      (NdefX.ncx (L2.CX P w) P w K mg base [sn, vn, "__class__"] ⟨name, qual, params, body, scope, [("__class__", cc)], cda⟩ fI A outer s0 H E).xe s := by
  generalize hF : (⟨name, qual, params, body, scope, [("__class__", cc)], cda⟩ : NdefX.NF) = F at I ⊢
  have k1 : F.scope = scope := by rw [← hF]
  have k2 : F.cl = [(("__class__" : Str), cc)] := by rw [← hF]
  have k3 : F.c = cda := by rw [← hF]
  have h1 := fun b => super_stmt (body := b) (p0 := p0) (p1 := p1) (p2 := p2) (p3 := p3) (p4 := p4) (p5 := p5) (msg := msg) (j := j) vf rfl rfl k2 k3 lk (by rw [k1]; exact hsup) (by rw [k1]; exact S.frk _ (by simp)) (by rw [k1]; exact S.par _ (by simp)) hpar har lc hv2 hfile hline lcell I ha
  rw [show execs body = execs _ from congrArg execs hbody]
  refine PySem.ks_wpAt_execs_cons (PySem.wpAt_mono (h1 body) (fun f s1 z => ?_) fun _ _ z => z)
  obtain ⟨rfl, I1⟩ := z
  refine PySem.wpAt_of_wpAny ?_
  have vis : ∀ x ∈ [sn, vn], Vis F.scope x := fun x hx => .inl (by rw [k1]; exact S.par x hx)
  have ps := pss_one (ps_ost (f := fld) (p' := p7) (pos := p9) (pe_var (X := NdefX.ncx (L2.CX P w) P w K mg base [sn, vn, "__class__"] F fI A outer s0 H E) (i := 0) (x := sn) (pos := p6) rfl (vis _ (by simp)) d1 d2) (pe_var (i := 1) (x := vn) (pos := p8) rfl (vis _ (by simp)) d3 d4) (by rfl))
  refine thn (ps.run [] s1 _ H { nx := fun _ H' => Q .non H', rt := fun _ _ => False } I1 ?_) fun f s2 z => ?_
  · exact ⟨y, rfl, .ref a, rfl, a, C, rfl, vf.oex, vf.noF, .inl ⟨ha, fun dx n ne => hq dx n ne⟩⟩
  · cases f with
    | next =>
      obtain ⟨σ', H', J, q⟩ := z
      exact ⟨.non, H', J.os, J.bare, J.base, J.hok, rfl, q⟩
    | ret u =>
      obtain ⟨_, _, _, _, _, q⟩ := z
      exact q.elim
    | brk =>
      obtain ⟨_, _, _, q⟩ := z
      exact False.elim q
    | cont =>
      obtain ⟨_, _, _, q⟩ := z
      exact False.elim q
end
/-- what the __init__ promises -/
def spI (C : Addr) (fld : Str) : Sp := fun vs H Q _ => ∃ (a : Addr) (y : V), vs = [.ref a, y] ∧ H a = some (exo a C none) ∧ ∀ dx, H dx = none → dx ≠ a → Q .non (upd (upd H dx (exd dx [(fld, y)])) a (exo a C (some dx)))
section
variable {P : Program} {w : World} {K : PySem.W.Frag} {mg : Str → Option Value} {base : Heap} {C fI cc cda : Addr} {fd : FuncData} {name qual : Str} {params : Arguments} {body : List Stmt} {scope : Scope} {fld : Str}
theorem init_ok (vf : Ive P K C fI fld) (G : Ifn P K C fI cc cda fd name qual params body scope fld) : FnOk P w K mg base (L2.CX P w) 1 fI fd G.ps (spI C fld) := by
  refine ⟨fun vs H Q E h => ?_, fun A outer s H args us vs Q E hr e0 hb r hsp => ?_⟩
  · obtain ⟨a, y, rfl, _⟩ := h
    rfl
  obtain ⟨a, y, rfl, ha, hq⟩ := hsp
  obtain ⟨dV, kV, doc, pm, an, ct, rfl⟩ := G.fd_
  obtain ⟨oc, od, osl, lk⟩ := G.lk
  obtain ⟨ccl, cdd, cvs, ccs, file, tf, lc, hv2, hfile⟩ := G.file
  obtain ⟨cl, cld, csl, lcell⟩ := G.cell
  obtain ⟨S, hsup, ⟨ar, hpar, har⟩, d1, d2, d3, d4, p0, p1, p2, msg, j, p3, p4, p5, p6, p7, p8, p9, hline, hbody⟩ := G.sc
  have KB := e0.mod.kin
  have KX : K.In s.heap := KB.keeps fun b o e => (e0.bs b o e).1
  have lim : s.heap.NoLimit := e0.mod.nolimit.keeps fun b o e => (e0.bs b o e).1
  cases r with
  | @cons _ ua _ ur ra rr =>
  cases rr with
  | @cons _ u _ ur2 ru rn =>
  cases rn
  obtain rfl : ua = Value.ref a := ra
  have cA : NdefX.CellsAt [("__class__", cc)] ["__class__"] [none] s.heap H := by
    refine ⟨rfl, fun y c e => ?_, fun x y c e1 e2 => ?_, fun i y e => ?_⟩
    · obtain ⟨-, rfl⟩ := look1 e
      exact ⟨(e0.bs _ _ (KB _ _ lcell)).2, _, _, KX _ _ lcell, rfl⟩
    · rw [(look1 e1).1, (look1 e2).1]
    · cases i with
      | zero =>
        simp at e
        subst e
        exact ⟨cc, by simp, fun v hv => by simp at hv⟩
      | succ i => simp at e
  refine ks_codeAny_call_defAt hr.depth (KX _ _ lk) rfl lim (PySem.W.codeRec_of KX G.code) rfl hb S.nocell (fun x hx => S.par x.1 (List.of_mem_zip hx).1) (fun h₁ hns kp => ?_) S.co S.gen S.kind
  have I0 : L2.Inv (NdefX.ncx (L2.CX P w) P w K mg base [G.sn, G.vn, "__class__"] ⟨name, qual, params, body, scope, [("__class__", cc)], cda⟩ fI A outer s H E) [] (NdefX.startF [G.sn, G.vn, "__class__"] [V.ref a, y] [none]) H { s with heap := h₁, toks := s.toks + ([G.sn, G.vn].zip [Value.ref a, u]).length } :=
    NdefX.inv_startN S hr.hd e0 rfl (.cons (show L2.RelV (.ref a) (.ref a) from rfl) (.cons ru .nil)) cA hns kp
  have hst : NdefX.startF [G.sn, G.vn, "__class__"] [V.ref a, y] [none] = [some (.ref a), some y, none] := rfl
  rw [hst] at I0
  exact init_body vf lk hsup hpar har d1 d2 d3 d4 S lc hv2 hfile lcell hline hbody I0 ha hq
end
end So
end S_ExcVE

section S_Raise
set_option Elab.async false
set_option linter.all false
set_option maxRecDepth 100000
set_option maxHeartbeats 4000000
/-! Raise: raise C(e). -/
namespace So
open PySem PySem.Spec PyProof.Rows L2
open Mi (W Ob Xn R Orc)
section
variable {O : Orc} {K : PySem.W.Frag} {CA : Nat → Addr} {Wx : WX} {wr : List Nat} {σ : LS} {H : Hp} {D : Ends}
theorem xd_eq {H1 : Hp} {a dx C : Addr} {fs : List (Str × V)} {o1 o2 o3 : HO} {xs : List (Str × V)} (ha : H1 a = none) (ne : dx ≠ a) : upd (L2.del (upd (upd (upd H1 a o1) dx o2) a o3) a) dx (.xd xs) = upd H1 dx (.xd xs) := by
  funext b
  by_cases hb : b = dx
  · rw [hb, upd_same, upd_same]
  · rw [upd_ne hb, upd_ne hb]
    by_cases h2 : b = a
    · rw [h2, del_same, ha]
    · rw [del_ne h2, upd_ne h2, upd_ne hb, upd_ne h2]
theorem raise_ok {c : Nat} {fld : Str} {e : Mi.Ex} (h : tS O K CA Wx wr (.raise c fld e) D σ H) : tMkO (CA c) (spI (CA c) fld) [] (tAs O K CA Wx (.cons e .nil)) σ H (fun cls d H' => Wx cls d σ H') := by
  obtain ⟨H0, m0, f, σ0, ρ, cs, m, kp, ag, env, cc, h⟩ := h
  rw [Mi.run] at h
  refine ⟨ρ, cs, m, f, env, cc, ?_⟩
  unfold Mi.evs
  refine Rw.imp_bind (h.bind.imp (fun _ _ z => z.at kp ag) fun _ _ z => z) fun w cs1 h1 => ?_
  unfold Mi.evs
  intro vs H1 m1 k1 rs c1
  have hx : ZSm K CA Wx wr H0 m0 f σ0 ⟨c, [(fld, Mi.fz w)]⟩ cs1 := h1
  cases rs with
  | @cons _ _ v _ r rn =>
  cases rn
  refine ⟨by simp, fun a ha => ?_⟩
  refine ⟨a, v, rfl, upd_same, fun dx hd ne => ?_⟩
  rw [upd_ne ne] at hd
  refine ⟨rfl, dx, [(fld, v)], by rw [upd_same], ?_, hd, ?_⟩
  · rw [upd_ne ne, upd_same]
  · rw [xd_eq (C := CA c) (fs := []) ha ne]
    have kn : Keep H1 (upd H1 dx (.xd [(fld, v)])) m1 m1 := Keep.new hd
    refine hx _ _ _ m1 σ ((kp.trans k1).trans kn) (c1.mono kn fun b hb => ?_) ⟨rfl, dx, [v], rfl, by rw [upd_same]; rfl, .cons (r.mono kn) .nil⟩ ag
    obtain ⟨vs, q⟩ := c1.lists b hb
    exact upd_ne fun e => by
      rw [e, hd] at q
      cases q
/-- a class that is raised: all that is known of it -/
structure Xc (P : Program) (K : PySem.W.Frag) (mg : Str → Option Value) (C : Addr) (x fld : Str) : Prop where
  at_ : mg x = some (.ref C)
  ex : ∃ fI cc cda fd name qual params body scope, ∃ (_ : Ive P K C fI fld) (G : Ifn P K C fI cc cda fd name qual params body scope fld), Binds K fd G.ps []
theorem ps_raiseC {X : Cx} {x fld : Str} {c k : Nat} {a : Expr} {ea : Mi.Ex} {p pos pos2 : Pos} (hc : X.calm = true) (tk : Takes X Wx) (F : Xc X.prog X.K X.mg (CA c) x fld) (hr : Room (k + 2) X.A) (hg : Gl X x) (ha : PE X a (tE O X.K CA Wx ea)) (hs : noStar a = true) (hdb : (x == ("__debug__" : Str)) = false) :
    PS X (.Raise (some (.Call (.Name x p) [a] [] pos)) none pos2) (tS O X.K CA Wx wr (.raise c fld ea)) := by
  obtain ⟨fI, cc, cda, fd, name, qual, params, body, scope, vf, G, hb⟩ := F.ex
  have ht : L2.PMk X (.Call (.Name x p) [a] [] pos) (tMkO (CA c) (spI (CA c) fld) [] (tAs O X.K CA Wx (.cons ea .nil))) :=
    pmk_oex vf.oex vf.iC vf.tI (init_ok (w := X.w) (mg := X.mg) (base := X.base) vf G) (hr.mono (by omega)) hb .nil passL hg F.at_ (ta_cons ha ta_nil (star_cons hs)) hdb (star_cons hs) (by rfl)
  exact psImp (L2.ps_raise hc tk ht) fun D σ H z => raise_ok z
end
end So
end S_Raise

section S_ExcIs2
set_option Elab.async false
set_option linter.all false
set_option maxRecDepth 100000
set_option maxHeartbeats 4000000
/-! ExcIs2: isinstance of a caught error that has its own dict: by one class, by several. -/
namespace So
open PySem PySem.Spec PySem.Calls PyProof.Rows L2
section
variable {prog : Program} {w : World} {A : Around} {E : Value → Shared → Prop} {s : Shared} {K : PySem.W.Frag} {x D : Addr} {ox : Obj} {od : Option Obj}
theorem find_any {C : Addr} {nm : Str} {a g : Value} (h1 : (PySem.W.clsIn K C).isSome = true) (h2 : PySem.W.findIn K (.ref C) nm = some (some a)) (h3 : PySem.W.specialIn K a "__get__" = some (some g)) (h4 : PySem.W.takesIn K a = some true) :
    PySem.W.findObj K C od nm = some (.bind g a) := by
  obtain ⟨cd, h1⟩ := Option.isSome_iff_exists.mp h1
  unfold PySem.W.findObj
  rw [h1, Option.bind_some, h2, Option.bind_some]
  simp [h3, h4]
theorem cls_of_exc {Q : Option Value → Shared → Prop} (T : ExcC K D) (X : K.In s.heap) (I : PySem.W.InstAt s.heap x ox D od) (h : Q (some (.ref D)) { s with toks := s.toks + 1 }) : wpAny (model prog w) A (getAttr? (.ref x) "__class__") Q E s := by
  have fo : PySem.W.findObj K D od "__class__" = some (.bind (.builtin "getset_descriptor.__get__") (.builtin "object.__class__")) :=
    find_any (by obtain ⟨cd, hc, _⟩ := PySem.W.any_some T.hd; rw [hc]; rfl) T.ha T.hn T.ht
  obtain ⟨hp, gg, dr, tk, os⟩ := s
  have La := I.type (M := model prog w)
  have Lb := PySem.W.looks_findIn (M := model prog w) X T.hg
  have Lc := PySem.W.looks_findIn (M := model prog w) X T.hk
  have Ld := PySem.W.looks_find (M := model prog w) X I fo
  have isB : PySem.W.Looks (model prog w) hp (isInstance (.ref x) (.type "BaseException")) true := La.andThen (PySem.W.looks_subIn X T.hs)
  have n0 : (false && onTheHeap (Value.builtin "BaseException.__getattribute__")) = false := rfl
  have n1 : (onTheHeap (Value.ref D) && Value.builtin "BaseException.__getattribute__" == Value.builtin "object.__getattribute__") = false := by
    rw [show (Value.builtin "BaseException.__getattribute__" == Value.builtin "object.__getattribute__") = false by decide +kernel] <;> rfl
  unfold getAttr? getAttrBy? getAttrBy
  refine wpAny_bind (wpAny_mkText (wpAny_bind (wpAny_attempt (wpAny_holding (wpAny_bind (La.at (wpAny_bind (Lb.at ?_))))))))
  show wpAny _ _ (if (onTheHeap (Value.ref D) && Value.builtin "BaseException.__getattribute__" == Value.builtin "object.__getattribute__") = true then _ else _) _ _ _
  rw [n1, if_neg Bool.false_ne_true]
  unfold getAttrByItsOwn hookBefore
  refine wpAny_bind ?_
  rw [if_pos (show onTheHeap (Value.ref D) = true from rfl)]
  refine Lc.at ?_
  refine wpAny_bind (wpAny_attempt (wpAny_holding ?_))
  unfold callGetattribute
  rw [n0, if_neg Bool.false_ne_true]
  unfold boundAndCalled
  rw [PySem.F.excAttr_ValueError.ga.bind (.ref x)]
  refine wpAny_bind (wpAny_pure ?_)
  show wpAny _ _ (call (.builtin "BaseException.__getattribute__") [.ref x, .str "__class__" tk]) _ _ _
  refine wpAny_call (codeAny_call_builtin PySem.F.excAttr_ValueError.ga.plain PySem.F.entry_bexc_ga ?_)
  refine @PySem.W.check_slot (model prog w) _ _ ⟨hp, gg, dr, tk + 1, os⟩ "BaseException.__getattribute__" "BaseException" "__getattribute__" (.ref x) [.str "__class__" tk] [] _ (by decide +kernel) (by decide +kernel) isB (PySem.F.args_bexc_ga (.ref x) (.str "__class__" tk)) ?_
  unfold Builtin.«object.__getattribute__»
  refine wpAny_bind (wpAny_of_eq (a := ((Value.ref x : Value), [Value.str "__class__" tk])) (by first | rfl | (simp only [slotArgs]; rfl)) ?_)
  refine wpAny_bind (wpAny_pure (wpAny_bind (La.at (wpAny_bind (Ld.at ?_)))))
  show wpAny _ _ (holding [Value.builtin "object.__class__"] (call (.builtin "getset_descriptor.__get__") [.builtin "object.__class__", .ref x, .ref D]) >>= ret) _ _ _
  refine wpAny_bind (wpAny_holding (wpAny_call (PySem.W.class_get (s := ⟨hp, gg, dr, tk + 1, os⟩) (ox := ox) (od := od) X I T.hm ?_)))
  refine wpAny_pure ?_
  show wpAny _ _ (handedOut (.ref D)) _ _ _
  rw [PySem.W.handedOut_of (v := .ref D) rfl]
  first
    | exact wpAny_pure (wpAny_pure h)
    | exact wpAny_pure h
    | exact wpAny_pure (wpAny_bind (wpAny_pure (wpAny_pure h)))
theorem kit_exc (T : ExcC K D) : PySem.W.KitX K (.ref x) (.ref D) (fun h => PySem.W.InstAt h x ox D od) where
  ty := fun _ _ _ I => I.type
  it := fun _ _ X _ => by
    obtain ⟨cdD, hcD, _⟩ := PySem.W.any_some T.hd
    unfold PySem.W.clsIn at hcD
    split at hcD
    · rename_i ho
      intro A' Q' E' s' k q
      unfold isType loadHead
      exact wpAny_bind (wpAny_loadPart (k _ _ (X _ _ ho)) (wpAny_pure q))
    · cases hcD
  ne := fun h tp dd its n sl X htp => by
    obtain ⟨cdD, hcD, _⟩ := PySem.W.any_some T.hd
    refine Bool.eq_false_iff.mpr fun q => ?_
    obtain rfl : D = tp := Value.ref.inj (beq_iff_eq.mp q)
    unfold PySem.W.clsIn at hcD
    split at hcD
    · rename_i ho
      have z := (X _ _ ho).symm.trans htp
      cases z
    · cases hcD
  ca := fun X I k => cls_of_exc T X I k
end
/-- isinstance(e, c), isinstance(e, (c, ..)): e the exception that the suite holds -/
def rIsX (K : PySem.W.Frag) (D a : Addr) : List V → Hp → VK → Prop := fun xs H Q => ∃ (b : Bool), ((∃ (c : V) (cv : Value), xs = [.ref a, c] ∧ (∀ u, RelV c u → u = cv) ∧ PySem.W.kitOne K (.ref D) cv = some b) ∨
  ∃ (p : Addr) (vs : List V) (us : List Value), xs = [.ref a, .ref p] ∧ H p = some (.tup vs) ∧ (∀ ws, Vals vs ws → ws = us) ∧ PySem.W.kitAny K (.ref D) us = some b) ∧ Q (.bl b) H
theorem call_isX {X : Cx} {a D dd : Addr} {oe : Obj} {pn : List (Addr × Obj)} {fs : List (Str × V)} (C : ExcC X.K D) (hz : Zc (.ref D) (some dd) oe) (hf : ∃ vs, oe.data = .fields vs) :
    CallR (X.suite a ((a, oe) :: pn)) (.builtin "isinstance") (fun xs H Q => (∃ fs, H dd = some (.xd fs)) ∧ rIsX X.K D a xs H Q) := by
  intro pins s σ H xs us Q I r h
  obtain ⟨⟨fs, hd⟩, b, h, q⟩ := h
  obtain ⟨hget, _⟩ := I.pin (a, oe) (List.mem_append.mpr (.inl List.mem_cons_self))
  obtain ⟨vs, hv⟩ := hf
  have hx : ObjOk X.prog X.w H s.heap dd (.xd fs) := I.hok dd _ hd
  obtain ⟨mA, hns, hr⟩ := hx
  obtain ⟨od, ho, hl⟩ := lookIn_ns hns
  have J : PySem.W.InstAt s.heap a oe D (some od) := ⟨hget, hz.1, by unfold PySem.W.notCls; rw [hv] <;> rfl, by rw [hz.2]; exact ho⟩
  rcases h with ⟨c, cv, rfl, hcv, e⟩ | ⟨p, ts, ws, rfl, hp, hw, e⟩
  · cases r with
    | cons rx rr =>
      cases rr with
      | cons rt rn =>
        cases rn
        cases rx
        have ec := hcv _ rt
        subst ec
        exact PySem.W.kia_one (kit_exc C) I.kIn J e (fun z => nomatch z) fun tk => ⟨.bl b, H, I.kept (t' := tk) fun _ _ z => z, rfl, q⟩
  · cases r with
    | cons rx rr =>
      cases rr with
      | @cons _ ut _ _ rt rn =>
        cases rn
        cases rx
        obtain rfl : ut = Value.ref p := rt
        have ht : ObjOk X.prog X.w H s.heap p (.tup ts) := I.hok p _ hp
        obtain ⟨_, its, hits, o, ho2, hc2, n, hd2⟩ := ht
        obtain rfl := hw _ hits
        obtain ⟨oc, od2, oda, osl⟩ := o
        dsimp only at hc2 hd2
        subst hc2 hd2
        exact PySem.W.kia_tup (kit_exc C) I.kIn J ho2 e (fun z => nomatch z) fun tk => ⟨.bl b, H, I.kept (t' := tk) fun _ _ z => z, rfl, q⟩
end So
end S_ExcIs2

section S_Hand
set_option Elab.async false
set_option linter.all false
set_option maxRecDepth 100000
set_option maxHeartbeats 4000000
/-! Hand: except suites. -/
namespace So
open PySem PySem.Spec PyProof.Rows L2
open Mi (W Ob Xn R Orc)
/-- what the top has written of them -/
structure Gx (T : Xt) (CA : Nat → Addr) (P : Program) (K : PySem.W.Frag) (mg : Str → Option Value) : Prop where
  xr : ∀ y c f, T.xc y = some (c, f) → Xc P K mg (CA c) y f ∧ (y == ("__debug__" : Str)) = false
  xi : ∀ c ∈ T.al, ExcC K (CA c) ∧ XfC K (CA c)
  xn : ∀ c ∈ T.al, ∀ f ∈ T.fl, PySem.W.findIn K (.ref (CA c)) f = some none
  xm : ∀ y ms, T.xm y = some ms → ∃ D, mg y = some (.ref D) ∧ ∀ c ∈ T.al, PySem.W.exmOne K (.ref (CA c)) (.ref D) = some (ms.contains c) ∧ PySem.W.kitOne K (.ref (CA c)) (.ref D) = some (ms.contains c)
  xv : ∀ c ∈ T.al, PySem.W.kitOne K (.ref (CA c)) (.type "ValueError") = some true
  xb : T.al ≠ [] → mg "ValueError" = none
  xs : T.al ≠ [] → mg "isinstance" = none
/-- the state in a suite: the error at a, its dict at dd, its name's slot i -/
structure SH (K : PySem.W.Frag) (x : Xn) (a dd : Addr) (i : Nat) (σ : LS) (H : Hp) (ρ : ME) (cs : List Ob) (m f : List Addr) : Prop where
  env : EnvR K H m f ρ σ
  cel : Cells K H m f cs
  xd : ∃ vs, H dd = some (.xd ((x.fs.map (·.1)).zip vs)) ∧ Reps K H m f (x.fs.map (·.2)) vs
  at_ : σ[i]? = some (some (.ref a))
theorem SH.mono {K : PySem.W.Frag} {x : Xn} {a dd : Addr} {i : Nat} {σ : LS} {H H' : Hp} {ρ : ME} {cs : List Ob} {m f : List Addr} (h : SH K x a dd i σ H ρ cs m f) (k : Keep H H' m m) (c : Cells K H' m f cs) : SH K x a dd i σ H' ρ cs m f := by
  obtain ⟨vs, h1, h2⟩ := h.xd
  refine ⟨h.env.mono k, c, ⟨vs, k.same _ _ h1 fun hm => ?_, h2.mono k⟩, h.at_⟩
  obtain ⟨us, q⟩ := h.cel.lists _ hm
  rw [h1] at q
  cases q
section
variable (K : PySem.W.Frag) (x : Xn) (a dd : Addr) (i : Nat)
def tHv (v : Mi.Hv) : TE := fun σ H Q => ∃ ρ cs m f w, SH K x a dd i σ H ρ cs m f ∧ Mi.hvE x ρ v = some w ∧ ∀ u H', Keep H H' m m → Rep K H' m f w u → Cells K H' m f cs → Q u H'
def tHvs (es : Mi.Hvs) : TA := fun σ H Q => ∃ ρ cs m f ws, SH K x a dd i σ H ρ cs m f ∧ Mi.hvsE x ρ es = some ws ∧ ∀ us H', Keep H H' m m → Reps K H' m f ws us → Cells K H' m f cs → Q us H'
def tHb (t : Mi.Ht) : TE := fun σ H Q => ∃ ρ cs m f, SH K x a dd i σ H ρ cs m f ∧ ∀ H', Keep H H' m m → Cells K H' m f cs → Q (.bl (Mi.htE x t)) H'
def tHt (t : Mi.Ht) : TT := fun σ H Q => ∃ ρ cs m f, SH K x a dd i σ H ρ cs m f ∧ ∀ H', Keep H H' m m → Cells K H' m f cs → Q (Mi.htE x t) H'
def PHs (m f : List Addr) (H : Hp) (cs : List Ob) (σ : LS) (D : Ends) : Option (Option W) → Prop
  | some none => ∀ H', Keep H H' m m → Cells K H' m f cs → D.nx σ H'
  | some (some w) => ∀ v H', Keep H H' m m → Rep K H' m f w v → Cells K H' m f cs → D.rt v H'
  | none => False
def tHs (g : ME → Option (Option W)) : TS := fun D σ H => ∃ ρ cs m f, SH K x a dd i σ H ρ cs m f ∧ PHs K m f H cs σ D (g ρ)
end
/-! ### the checker -/
def nameC (c : Cc) (i : Nat) : Expr → Bool
  | .Name y _ => slotC c i y && visC c y && okN y
  | _ => false
def clsNs (T : Xt) (c : Cc) : List Expr → Option (List Nat)
  | [] => some []
  | .Name y _ :: es => if glC c y && okN y then (match T.xm y, clsNs T c es with
    | some l, some r => some (l ++ r)
    | _, _ => none) else none
  | _ :: _ => none
mutual
def kHv (T : Xt) (c : Cc) (i : Nat) : Mi.Hv → Expr → Bool
  | .non, e => (match e with
    | .Constant .none _ _ => true
    | _ => false)
  | .bl b, e => (match e with
    | .Constant (.bool d) _ _ => b == d
    | _ => false)
  | .int n, e => (match e with
    | .Constant (.int j) _ _ => decide (n = j)
    | _ => false)
  | .str s, e => (match e with
    | .Constant (.str r) _ _ => decide (s = r)
    | _ => false)
  | .var j, e => nameC c j e
  | .fld f, e => (match e with
    | .Attribute o g _ => decide (f = g) && nameC c i o && T.fl.contains f
    | _ => false)
  | .tup es, e => (match e with
    | .Tuple xs _ _ => kHvs T c i es xs
    | _ => false)
def kHvs (T : Xt) (c : Cc) (i : Nat) : Mi.Hvs → List Expr → Bool
  | .nil, es => es.isEmpty
  | .cons v vs, es => (match es with
    | e :: es => noStar e && kHv T c i v e && kHvs T c i vs es
    | [] => false)
end
/-- a single call of isinstance -/
def kIsx (T : Xt) (c : Cc) (i : Nat) (ms : List Nat) : Expr → Bool
  | .Call (.Name y _) [o, .Name z p] [] _ => decide (y = ("isinstance" : Str)) && glC c y && nameC c i o && decide (clsNs T c [.Name z p] = some ms)
  | .Call (.Name y _) [o, .Tuple es _ _] [] _ => decide (y = ("isinstance" : Str)) && glC c y && nameC c i o && decide (clsNs T c es = some ms) && es.all noStar && decide (es.length < 1000)
  | _ => false
def kIsv (T : Xt) (c : Cc) (i : Nat) : Expr → Bool
  | .Call (.Name y _) [o, .Name z _] [] _ => decide (y = ("isinstance" : Str)) && glC c y && nameC c i o && decide (z = ("ValueError" : Str)) && glC c z
  | _ => false
def kHb (T : Xt) (c : Cc) (i : Nat) : Mi.Ht → Expr → Bool
  | .isx ms, e => kIsx T c i ms e
  | .isv, e => kIsv T c i e
  | .not _, _ => false
  | .and _ _, _ => false
  | .or _ _, _ => false
def kHt (T : Xt) (c : Cc) (i : Nat) : Mi.Ht → Expr → Bool
  | .not a, e => (match e with
    | .UnaryOp .Not y _ => kHt T c i a y
    | _ => false)
  | .and a b, e => (match e with
    | .BoolOp .And [y, z] _ => kHt T c i a y && kHt T c i b z
    | .BoolOp .And (y :: z :: u :: us) p => kHt T c i a y && kHt T c i b (.BoolOp .And (z :: u :: us) p)
    | _ => false)
  | .or a b, e => (match e with
    | .BoolOp .Or [y, z] _ => kHt T c i a y && kHt T c i b z
    | .BoolOp .Or (y :: z :: u :: us) p => kHt T c i a y && kHt T c i b (.BoolOp .Or (z :: u :: us) p)
    | _ => false)
  | .isx ms, e => kIsx T c i ms e
  | .isv, e => kIsv T c i e
mutual
def kHst (T : Xt) (c : Cc) (i : Nat) : Mi.Hst → Stmt → Bool
  | .ret v, st => (match st with
    | .Return (some e) _ => kHv T c i v e
    | _ => false)
  | .retb t, st => (match st with
    | .Return (some e) _ => kHb T c i t e
    | _ => false)
  | .ife t a b, st => (match st with
    | .If e u v _ => kHt T c i t e && kHss T c i a u && kHss T c i b v
    | _ => false)
def kHss (T : Xt) (c : Cc) (i : Nat) : Mi.Hss → List Stmt → Bool
  | .nil, sts => sts.isEmpty
  | .cons s ss, sts => (match sts with
    | st :: sts => kHst T c i s st && kHss T c i ss sts
    | [] => false)
end
end So
end S_Hand

section S_Check2
set_option Elab.async false
set_option linter.all false
set_option maxRecDepth 100000
set_option maxHeartbeats 4000000
/-! Check2: what is checked holds: expressions. -/
namespace So
open PySem PySem.Spec PyProof.Rows L2
open Mi (W Ob Xn R Orc)
/-- what stands behind the names of the module, calls up to k deep -/
structure Gd (T : Tb) (O : Orc) (CA : Nat → Addr) (P : Program) (w : World) (K : PySem.W.Frag) (mg : Str → Option Value) (base : Heap) (k : Nat) : Prop where
  gl : ∀ x, T.gl x = true → ∃ (g : W) (v : V) (u : Value), O.glob x = some g ∧ mg x = some u ∧ RelV v u ∧ ∀ H m f, Rep K H m f g v
  df : ∀ x n, T.df x = some n → ∃ (fa : Addr) (fd : FuncData) (ps : List Str), mg x = some (.ref fa) ∧ PySem.W.keepIn K (.ref fa) = true ∧ FnOk P w K mg base (L2.CX P w) k fa fd ps (spF K CA (O.call n)) ∧ Binds K fd ps [] ∧
    ∀ ks pm, T.kw x ks pm = true → KPer K fd ps ks pm
  bl : ∀ x ∈ bltNs, mg x = none
  gx : Gx T.x CA P K mg
/-- the checker's context is this one -/
structure Mt (T : Tb) (O : Orc) (CA : Nat → Addr) (k : Nat) (c : Cc) (X : Cx) : Prop where
  gd : Gd T O CA X.prog X.w X.K X.mg X.base k
  room : Room k X.A
  k2 : 2 ≤ k
  calm : X.calm = true
  nd : X.N.Nodup
  N : X.N = c.N
  sc : X.env.scope = c.sc
  fn : X.fn = c.fn
def Res (O : Orc) (CA : Nat → Addr) (t : Bool) (X : Cx) (x : Expr) (e : Mi.Ex) (Wx : WX) : Prop :=
  (t = false → PE X x (tE O X.K CA Wx e)) ∧ (t = true → PT X x (tTs O X.K CA Wx e) ∧ (isBo x = true → PW X x (tTs O X.K CA Wx e)))
section
variable {T : Tb} {O : Orc} {CA : Nat → Addr} {k : Nat} {c : Cc} {X : Cx} {x : Expr} {e : Mi.Ex} {Wx : WX} {t : Bool}
theorem Res.val (h : PE X x (tE O X.K CA Wx e)) (p : plainT x = true) : Res O CA t X x e Wx := ⟨fun _ => h, fun _ => ⟨tt_val h (plainT_ok p), fun b => by
  rw [plainT_bo p] at b
  cases b⟩⟩
theorem Mt.vis (M : Mt T O CA k c X) {y : Str} (h : visC c y = true) : Vis X.env.scope y := by
  unfold visC at h
  unfold Vis
  rw [M.sc]
  split at h
  · exact .inl (by assumption)
  · exact .inr (.inl (by assumption))
  · exact .inr (.inr (by assumption))
  · cases h
theorem Mt.glob (M : Mt T O CA k c X) {y : Str} (h : glC c y = true) : Gl X y := by
  unfold glC at h
  unfold Gl
  show X.env.scope.names.lookup y = _
  rw [M.sc]
  split at h
  · assumption
  · cases h
theorem Mt.slot (M : Mt T O CA k c X) {i : Nat} {y : Str} (h : slotC c i y = true) : X.N[i]? = some y := by
  rw [M.N]
  exact of_decide_eq_true h
theorem okN_ok {y : Str} (h : okN y = true) : (y == ("__debug__" : Str)) = false ∧ (y == ("__classdict__" : Str)) = false ∧ y ≠ "__name__" := by
  unfold okN at h
  simp only [Bool.and_eq_true, Bool.not_eq_true'] at h
  exact ⟨h.1.1, h.1.2, fun e => by
    have q := h.2
    rw [e] at q
    revert q
    decide⟩
theorem star_any {pos : Pos} {env : PySem.Env} : ∀ {es : List Expr}, (∀ e ∈ es, noStar e = true) → (backTo pos (starEach es env)).any (·.1) = false
  | [], _ => rfl
  | e :: es, h => by
    rw [star_cons (h e List.mem_cons_self)]
    show (false || (backTo pos (starEach es env)).any (·.1)) = false
    rw [Bool.false_or]
    exact star_any fun e' h' => h e' (List.mem_cons_of_mem _ h')
theorem kAs_star : ∀ {es : List Expr} {as : Mi.Exs}, kAs T as c es = true → ∀ e ∈ es, noStar e = true
  | [], _, _, _, h => nomatch h
  | e :: es, .nil, h, _, _ => by cases h
  | e :: es, .cons a as, h, e', he => by
    rw [kAs] at h
    simp only [Bool.and_eq_true] at h
    rcases List.mem_cons.mp he with z | z
    · rw [z]
      exact h.1.1
    · exact kAs_star h.2 e' z
theorem kw_all {pos : Pos} {env : PySem.Env} : ∀ {ks : List Keyword}, kwAll ks = true → (backToKw pos (keywordEach ks env)).all (·.1.isSome) = true ∧ (backToKw pos (keywordEach ks env)).filterMap (·.1) = kwNs ks ∧ (backToKw pos (keywordEach ks env)).any (·.1.isNone) = false
  | [], _ => ⟨rfl, rfl, rfl⟩
  | ⟨none, _, _⟩ :: ks, h => by cases h
  | ⟨some n, e, p⟩ :: ks, h => by
    obtain ⟨h1, h2, h3⟩ := kw_all (pos := pos) (env := env) (ks := ks) h
    refine ⟨?_, ?_, ?_⟩
    · show (true && (backToKw pos (keywordEach ks env)).all (·.1.isSome)) = true
      rw [h1]
      rfl
    · show n :: (backToKw pos (keywordEach ks env)).filterMap (·.1) = n :: kwNs ks
      rw [h2]
    · show (false || (backToKw pos (keywordEach ks env)).any (·.1.isNone)) = false
      rw [h3]
      rfl
theorem blt_each {b : Mi.Blt} {as : Mi.Exs} {e : Expr} {es : List Expr} {p pos : Pos} (hc : X.calm = true) (hb : isB b = true) (hg : Gl X (bltN b)) (hm : X.mg (bltN b) = none) (ha : PA X (e :: es) (tAs O X.K CA Wx as)) (hs : ∀ e' ∈ e :: es, noStar e' = true) :
    PE X (.Call (.Name (bltN b) p) (e :: es) [] pos) (tE O X.K CA Wx (.blt b as)) := by
  have he := star_cons (env := X.env) (es := es) (hs e List.mem_cons_self)
  have hpl : (backTo pos (starEach es X.env)).any (·.1) = false := star_any fun e' h' => hs e' (List.mem_cons_of_mem _ h')
  cases b with
  | len => exact te_bltB call_len2 (fun _ _ _ h => h) hg hm (by decide +kernel) ha (by decide) (by decide) he hpl
  | abs => exact te_bltB call_abs2 (fun _ _ _ h => h) hg hm (by decide +kernel) ha (by decide) (by decide) he hpl
  | int => exact te_bltT call_int2 hg hm (by decide +kernel) ha (by decide) (by decide) he hpl
  | max2 => exact te_bltB (call_max hc) (fun _ _ _ h => .inl h) hg hm (by decide +kernel) ha (by decide) (by decide) he hpl
  | max1 => exact te_bltB (call_max hc) (fun _ _ _ h => .inr h) hg hm (by decide +kernel) ha (by decide) (by decide) he hpl
  | min2 => exact te_bltB (call_min hc) (fun _ _ _ h => .inl h) hg hm (by decide +kernel) ha (by decide) (by decide) he hpl
  | min1 => exact te_bltB (call_min hc) (fun _ _ _ h => .inr h) hg hm (by decide +kernel) ha (by decide) (by decide) he hpl
  | sum => exact te_bltB (call_sum2 hc) (fun _ _ _ h => h) hg hm (by decide +kernel) ha (by decide) (by decide) he hpl
  | any => exact te_bltB (call_any2 hc) (fun _ _ _ h => h) hg hm (by decide +kernel) ha (by decide) (by decide) he hpl
  | all => exact te_bltB (call_all2 hc) (fun _ _ _ h => h) hg hm (by decide +kernel) ha (by decide) (by decide) he hpl
  | sorted => exact te_bltB call_sorted2 (fun _ _ _ h => h) hg hm (by decide +kernel) ha (by decide) (by decide) he hpl
  | list => exact te_bltT call_list2 hg hm (by decide +kernel) ha (by decide) (by decide) he hpl
  | tuple => exact te_bltT call_tuple2 hg hm (by decide +kernel) ha (by decide) (by decide) he hpl
  | strI => exact te_bltT call_strI2 hg hm (by decide +kernel) ha (by decide) (by decide) he hpl
  | lenSet => cases hb
  | sortSet => cases hb
theorem bltN_mem (b : Mi.Blt) : bltN b ∈ bltNs := by cases b <;> decide
theorem tyOf_mem (t : Mi.Ty) : (tyOf t : Str) ∈ bltNs := by cases t <;> decide
/-! ### stores -/
theorem sto_ok (M : Mt T O CA k c X) {i : Nat} {y : Str} (h : stoC c i y = true) : X.N[i]? = some y ∧ Loc X.env.scope y ∧ (X.fn y = true ∨ X.env.scope.names.lookup y = some .local) := by
  unfold stoC at h
  rw [Bool.and_eq_true] at h
  refine ⟨M.slot h.1, ?_⟩
  have h2 := h.2
  unfold L2.Loc
  rw [M.sc, M.fn]
  split at h2
  · rename_i e
    exact ⟨.inl e, .inr e⟩
  · rename_i e
    exact ⟨.inr e, .inl h2⟩
  · cases h2
theorem pg_nm (M : Mt T O CA k c X) {i : Nat} {y : Str} {p : Pos} (h : stoC c i y = true) : PG X (.Name y p) (gName i) := by
  obtain ⟨h1, h2, h3⟩ := sto_ok M h
  exact pg_name M.nd h1 h2 h3
theorem pgs_ok (M : Mt T O CA k c X) : ∀ {is : List Nat} {es : List Expr}, tgNs c is es = true → PGs X es (gNs is) ∧ (assignEach es X.env).length = is.length ∧ (assignEach es X.env).findIdx? (·.1) = none
  | [], [], _ => ⟨pgs_nil, rfl, rfl⟩
  | [], _ :: _, h => by cases h
  | i :: is, [], h => by cases h
  | i :: is, e :: es, h => by
    cases e <;> first | (cases h; done) | skip
    simp only [tgNs, Bool.and_eq_true] at h
    obtain ⟨q1, q2, q3⟩ := pgs_ok M h.2
    refine ⟨pgs_cons (pg_nm M h.1) q1 rfl, ?_, ?_⟩
    · show (assignEach es X.env).length + 1 = is.length + 1
      rw [q2]
    · show List.findIdx? (·.1) ((false, _) :: assignEach es X.env) = none
      rw [List.findIdx?_cons, q3]
      rfl
theorem kG_ok (M : Mt T O CA k c X) {g : Mi.Tg} {tg : Expr} (h : kG c g tg = true) : PG X tg (gM X.K g) := by
  cases g with
  | nm i =>
    cases tg <;> first | (cases h; done) | skip
    exact pg_nm M h
  | tp is =>
    cases tg <;> first | (cases h; done) | skip
    obtain ⟨q1, q2, q3⟩ := pgs_ok M (is := is) h
    exact pg_tup M.calm q1 q2 q3
/-- a comprehension's block -/
theorem Mt.blk (M : Mt T O CA k c X) (s : Shared) (H : Hp) (scope : Scope) (C : Addr) (cl : List (Str × Addr)) (fp : List Addr) : Mt T O CA k (blkCc c scope) (X.blk s H scope (compEnvC scope cl C X.env) fp) :=
  ⟨M.gd, M.room, M.k2, M.calm, M.nd, M.N, by
    show PySem.Scope.mk _ _ _ _ _ = _
    unfold blkCc relS
    rw [← M.sc]
    rfl, rfl⟩
end
end So
end S_Check2

section S_Hand2
set_option Elab.async false
set_option linter.all false
set_option maxRecDepth 100000
set_option maxHeartbeats 4000000
/-! Hand2: what is checked of an except suite holds. -/
namespace So
open PySem PySem.Spec PyProof.Rows L2
open Mi (W Ob Xn R Orc)
theorem look_rep {K : PySem.W.Frag} {H : Hp} {m fr : List Addr} {f : Str} {w : W} : ∀ {fs : List (Str × W)} {vs : List V}, fs.lookup f = some w → Reps K H m fr (fs.map (·.2)) vs → ∃ v, ((fs.map (·.1)).zip vs).lookup f = some v ∧ Rep K H m fr w v
  | [], _, e, _ => by cases e
  | (g, u) :: fs, vs, e, r => by
    cases r with
    | @cons _ _ v vs' r1 r2 =>
    rw [List.lookup_cons] at e
    show ∃ v', List.lookup f ((g, v) :: (fs.map (·.1)).zip vs') = some v' ∧ _
    rw [List.lookup_cons]
    cases q : f == g with
    | true =>
      rw [q] at e
      cases e
      exact ⟨v, rfl, r1⟩
    | false =>
      rw [q] at e
      exact look_rep e r2
section
variable {T : Tb} {XT : Xt} {O : Orc} {CA : Nat → Addr} {k : Nat} {c : Cc} {X : Cx} {x : Xn} {a dd : Addr} {i : Nat} {oe : Obj} {pn : List (Addr × Obj)}
theorem nm_ok (M : Mt T O CA k c X) {j : Nat} {e : Expr} (h : nameC c j e = true) : ∃ y p, e = .Name y p ∧ X.N[j]? = some y ∧ Vis X.env.scope y ∧ (y == ("__debug__" : Str)) = false ∧ (y == ("__classdict__" : Str)) = false := by
  unfold nameC at h
  split at h
  · simp only [Bool.and_eq_true] at h
    obtain ⟨g1, g2, _⟩ := okN_ok h.2
    exact ⟨_, _, rfl, M.slot h.1.1, M.vis h.1.2, g1, g2⟩
  · cases h
theorem pe_err (M : Mt T O CA k c X) {j : Nat} {e : Expr} (h : nameC c j e = true) : PE (X.suite a ((a, oe) :: pn)) e (tVar j) := by
  obtain ⟨y, p, rfl, h1, h2, h3, h4⟩ := nm_ok M h
  exact pe_var (X := X.suite a ((a, oe) :: pn)) h1 h2 h3 h4
theorem Mt.globS (M : Mt T O CA k c X) {y : Str} (h : glC c y = true) : Gl (X.suite a ((a, oe) :: pn)) y := M.glob h
mutual
theorem hv_ok (M : Mt T O CA k c X) (G : Gx XT CA X.prog X.K X.mg) (hc : XT.al.contains x.cls = true) (hz : Zc (.ref (CA x.cls)) (some dd) oe) (hf : ∃ vs, oe.data = .fields vs) : ∀ (v : Mi.Hv) (e : Expr), kHv XT c i v e = true → PE (X.suite a ((a, oe) :: pn)) e (tHv X.K x a dd i v)
  | .non, e, h => by
    unfold kHv at h
    split at h
    · refine peImp pe_non fun σ H Q ⟨ρ, cs, m, f, w, s, e, q⟩ => ?_
      rw [Mi.hvE] at e
      cases e
      exact q _ H Keep.refl .non s.cel
    · cases h
  | .bl b, e, h => by
    unfold kHv at h
    split at h
    · obtain rfl := eq_of_beq h
      refine peImp pe_bl fun σ H Q ⟨ρ, cs, m, f, w, s, e, q⟩ => ?_
      rw [Mi.hvE] at e
      cases e
      exact q _ H Keep.refl (.bl _) s.cel
    · cases h
  | .int n, e, h => by
    unfold kHv at h
    split at h
    · obtain rfl := of_decide_eq_true h
      refine peImp pe_int fun σ H Q ⟨ρ, cs, m, f, w, s, e, q⟩ => ?_
      rw [Mi.hvE] at e
      cases e
      exact q _ H Keep.refl (.int _) s.cel
    · cases h
  | .str n, e, h => by
    unfold kHv at h
    split at h
    · obtain rfl := of_decide_eq_true h
      refine peImp pe_str fun σ H Q ⟨ρ, cs, m, f, w, s, e, q⟩ => ?_
      rw [Mi.hvE] at e
      cases e
      exact q _ H Keep.refl (.str _) s.cel
    · cases h
  | .var j, e, h => by
    unfold kHv at h
    refine peImp (pe_err M h) fun σ H Q ⟨ρ, cs, m, f, w, s, e, q⟩ => ?_
    rw [Mi.hvE] at e
    split at e
    · rename_i w' e2
      cases e
      obtain ⟨v, h1, h2⟩ := s.env.2 j _ e2
      exact ⟨v, h1, q v H Keep.refl h2 s.cel⟩
    · cases e
  | .fld f, e, h => by
    unfold kHv at h
    split at h
    · simp only [Bool.and_eq_true, decide_eq_true_eq] at h
      obtain ⟨⟨rfl, h2⟩, h3⟩ := h
      have hm : x.cls ∈ XT.al := List.contains_iff_mem.mp hc
      obtain ⟨y, p, rfl, _, _, _, _⟩ := nm_ok M h2
      refine peImp (pe_xf (X := X) (G.xi _ hm).2 (G.xn _ hm _ (List.contains_iff_mem.mp h3)) hz hf (pe_err M h2) (noCall_ok rfl)) fun σ H Q ⟨ρ, cs, m, fr, w, s, e, q⟩ => ?_
      rw [Mi.hvE] at e
      obtain ⟨vs, h4, h5⟩ := s.xd
      obtain ⟨v, h6, h7⟩ := look_rep e h5
      exact ⟨_, s.at_, rfl, rfl, dd, _, v, rfl, h4, h6, q v H Keep.refl h7 s.cel⟩
    · cases h
  | .tup es, e, h => by
    unfold kHv at h
    split at h
    · refine peImp (pe_tup (hvs_ok M G hc hz hf es _ h)) fun σ H Q ⟨ρ, cs, m, f, w, s, e, q⟩ => ?_
      rw [Mi.hvE] at e
      split at e
      · rename_i ws e2
        split at e
        · rename_i hl
          cases e
          refine ⟨ρ, cs, m, f, ws, s, e2, fun us H' k' r' c' => ⟨by rw [← r'.length]; exact sl_le hl, fun p hp => ?_⟩⟩
          have kn : Keep H' (upd H' p (.tup us)) m m := Keep.new hp
          have hm : p ∉ m := fun hm => by
            obtain ⟨zs, z⟩ := c'.lists _ hm
            rw [hp] at z
            cases z
          have hfr : p ∉ f := fun hm => c'.fd _ hm hp
          refine q _ _ (k'.trans kn) (.tup (.of upd_same) hm hfr (r'.mono kn)) (c'.mono kn fun b hb => upd_ne fun z => hm (z ▸ hb))
        · cases e
      · cases e
    · cases h
theorem hvs_ok (M : Mt T O CA k c X) (G : Gx XT CA X.prog X.K X.mg) (hc : XT.al.contains x.cls = true) (hz : Zc (.ref (CA x.cls)) (some dd) oe) (hf : ∃ vs, oe.data = .fields vs) : ∀ (vs : Mi.Hvs) (es : List Expr), kHvs XT c i vs es = true → PA (X.suite a ((a, oe) :: pn)) es (tHvs X.K x a dd i vs)
  | .nil, es, h => by
    cases es with
    | nil =>
      refine paImp pa_nil fun σ H Q ⟨ρ, cs, m, f, ws, s, e, q⟩ => ?_
      rw [Mi.hvsE] at e
      cases e
      exact q _ H Keep.refl .nil s.cel
    | cons e es => cases h
  | .cons v vs, es, h => by
    unfold kHvs at h
    split at h
    · simp only [Bool.and_eq_true] at h
      obtain ⟨⟨h1, h2⟩, h3⟩ := h
      refine paImp (pa_cons (hv_ok M G hc hz hf v _ h2) (hvs_ok M G hc hz hf vs _ h3) (star_cons h1)) fun σ H Q ⟨ρ, cs, m, f, ws, s, e, q⟩ => ?_
      rw [Mi.hvsE] at e
      split at e
      · rename_i w ws' e1 e2
        cases e
        refine ⟨ρ, cs, m, f, w, s, e1, fun u H1 k1 r1 c1 => ⟨ρ, cs, m, f, ws', s.mono k1 c1, e2, fun us H2 k2 r2 c2 => ?_⟩⟩
        exact q (u :: us) H2 (k1.trans k2) (.cons (r1.mono k2).fz r2) c2
      · cases e
    · cases h
end
/-- the classes in a tuple -/
theorem cls_list (M : Mt T O CA k c X) (G : Gx XT CA X.prog X.K X.mg) (hc : x.cls ∈ XT.al) : ∀ (es : List Expr) (ms : List Nat), clsNs XT c es = some ms → (∀ e ∈ es, noStar e = true) →
    ∃ Ds : List Addr, Ds.length = es.length ∧ PA (X.suite a ((a, oe) :: pn)) es (fun _ H Q => Q (Ds.map V.ref) H) ∧ PySem.W.kitAny X.K (.ref (CA x.cls)) (Ds.map Value.ref) = some (ms.contains x.cls)
  | [], ms, h, _ => by
    cases h
    exact ⟨[], rfl, paImp pa_nil fun _ _ _ q => q, rfl⟩
  | e :: es, ms, h, hs => by
    unfold clsNs at h
    split at h
    · rename_i heq
      cases heq
    · rename_i y p es' heq
      cases heq
      split at h
      · rename_i hg
        rw [Bool.and_eq_true] at hg
        split at h
        · rename_i l r e1 e2
          cases h
          obtain ⟨Ds, h0, h1, h2⟩ := cls_list M G hc es _ e2 fun e he => hs e (List.mem_cons_of_mem _ he)
          obtain ⟨D, h3, h4⟩ := G.xm _ _ e1
          refine ⟨D :: Ds, by simp [h0], paImp (pa_cons (pe_glob (M.globS hg.1) h3 (v := .ref D) rfl (okN_ok hg.2).1) h1 (star_cons rfl)) fun _ _ _ q => q, ?_⟩
          show (match PySem.W.kitOne X.K (.ref (CA x.cls)) (.ref D) with
            | some true => some true
            | some false => PySem.W.kitAny X.K (.ref (CA x.cls)) (Ds.map Value.ref)
            | none => none) = _
          rw [(h4 _ hc).2, h2]
          have ec : (l ++ r).contains x.cls = (l.contains x.cls || r.contains x.cls) := by simp [List.contains_eq_mem, Bool.decide_or]
          rw [ec]
          cases l.contains x.cls <;> rfl
        · cases h
      · cases h
    · cases h
theorem vals_refs : ∀ {Ds : List Addr} {us : List Value}, Vals (Ds.map V.ref) us → us = Ds.map Value.ref
  | [], _, .nil => rfl
  | D :: Ds, _, .cons r rs => by
    obtain rfl := (show _ = Value.ref D from r)
    rw [vals_refs rs]
    rfl
theorem cells_new {K : PySem.W.Frag} {H : Hp} {m f : List Addr} {cs : List Ob} {p : Addr} {o : HO} (c : Cells K H m f cs) (hp : H p = none) : Cells K (upd H p o) m f cs :=
  c.mono (Keep.new hp) fun b hb => upd_ne fun z => by
    obtain ⟨zs, q⟩ := c.lists _ hb
    rw [z, hp] at q
    cases q
theorem phs_mono {K : PySem.W.Frag} {m f : List Addr} {H H' : Hp} {cs : List Ob} {σ : LS} {D : Ends} {o : Option (Option W)} (k : Keep H H' m m) (h : PHs K m f H cs σ D o) : PHs K m f H' cs σ D o := by
  match o, h with
  | some none, h => exact fun H2 k2 c2 => h H2 (k.trans k2) c2
  | some (some w), h => exact fun v H2 k2 r2 c2 => h v H2 (k.trans k2) r2 c2
theorem and_pw {K : PySem.W.Frag} {Y : Cx} {x : Xn} {a dd : Addr} {i : Nat} {e1 e2 : Expr} {rest : List Expr} {pos : Pos} {t u : Mi.Ht} (ha : PT Y e1 (tHt K x a dd i t)) (hb : PW Y (.BoolOp .And (e2 :: rest) pos) (tHt K x a dd i u)) : PW Y (.BoolOp .And (e1 :: e2 :: rest) pos) (tHt K x a dd i (.and t u)) :=
  pwImp (pw_and ha hb) fun σ H Q ⟨ρ, cs, m, f, s, q⟩ => ⟨ρ, cs, m, f, s, fun H1 k1 c1 => by
    have q' : ∀ H', Keep H H' m m → Cells K H' m f cs → Q (Mi.htE x t && Mi.htE x u) H' := q
    cases e : Mi.htE x t with
    | true =>
      rw [e] at q'
      exact iteT ⟨ρ, cs, m, f, s.mono k1 c1, fun H2 k2 c2 => q' H2 (k1.trans k2) c2⟩
    | false =>
      rw [e] at q'
      exact iteF (q' H1 k1 c1)⟩
theorem or_pw {K : PySem.W.Frag} {Y : Cx} {x : Xn} {a dd : Addr} {i : Nat} {e1 e2 : Expr} {rest : List Expr} {pos : Pos} {t u : Mi.Ht} (ha : PT Y e1 (tHt K x a dd i t)) (hb : PW Y (.BoolOp .Or (e2 :: rest) pos) (tHt K x a dd i u)) : PW Y (.BoolOp .Or (e1 :: e2 :: rest) pos) (tHt K x a dd i (.or t u)) :=
  pwImp (pw_or ha hb) fun σ H Q ⟨ρ, cs, m, f, s, q⟩ => ⟨ρ, cs, m, f, s, fun H1 k1 c1 => by
    have q' : ∀ H', Keep H H' m m → Cells K H' m f cs → Q (Mi.htE x t || Mi.htE x u) H' := q
    cases e : Mi.htE x t with
    | false =>
      rw [e] at q'
      exact iteF ⟨ρ, cs, m, f, s.mono k1 c1, fun H2 k2 c2 => q' H2 (k1.trans k2) c2⟩
    | true =>
      rw [e] at q'
      exact iteT (q' H1 k1 c1)⟩
theorem hb_ok (M : Mt T O CA k c X) (G : Gx XT CA X.prog X.K X.mg) (hc : XT.al.contains x.cls = true) (hz : Zc (.ref (CA x.cls)) (some dd) oe) (hf : ∃ vs, oe.data = .fields vs) : ∀ (t : Mi.Ht) (e : Expr), kHb XT c i t e = true → PE (X.suite a ((a, oe) :: pn)) e (tHb X.K x a dd i t)
  | .isx ms, e, h => by
    have hm : x.cls ∈ XT.al := List.contains_iff_mem.mp hc
    have hne : XT.al ≠ [] := fun e => by rw [e] at hm; cases hm
    have h : kIsx XT c i ms e = true := h
    unfold kIsx at h
    split at h
    · simp only [Bool.and_eq_true, decide_eq_true_eq] at h
      obtain ⟨⟨⟨rfl, h2⟩, h3⟩, h4⟩ := h
      obtain ⟨Ds, h0, h5, h6⟩ := cls_list (a := a) (oe := oe) (pn := pn) M G hm _ _ h4 (by simp [noStar])
      match Ds, h0 with
      | [D], _ =>
      have hk : PySem.W.kitOne X.K (.ref (CA x.cls)) (.ref D) = some (ms.contains x.cls) := by
        have q : (match PySem.W.kitOne X.K (.ref (CA x.cls)) (.ref D) with
            | some true => some true
            | some false => some false
            | none => none) = some (ms.contains x.cls) := h6
        revert q
        cases PySem.W.kitOne X.K (.ref (CA x.cls)) (.ref D) with
        | none => intro q; cases q
        | some b => cases b <;> exact fun q => q
      obtain ⟨yo, po, rfl, _, _, _, _⟩ := nm_ok M h3
      refine peImp (pe_callB (call_isX (fs := []) (X := X) (G.xi _ hm).1 hz hf) (M.globS h2) (G.xs hne) (by decide +kernel) (pa_cons (pe_err M h3) h5 (star_cons rfl)) (by decide) (by decide) (star_cons rfl) (by rfl)) fun σ H Q ⟨ρ, cs, m, f, s, q⟩ => ?_
      obtain ⟨vs, h7, h8⟩ := s.xd
      exact ⟨_, s.at_, ⟨_, h7⟩, _, .inl ⟨.ref D, .ref D, rfl, fun u r => r, hk⟩, q H Keep.refl s.cel⟩
    · simp only [Bool.and_eq_true, decide_eq_true_eq] at h
      obtain ⟨⟨⟨⟨⟨rfl, h2⟩, h3⟩, h4⟩, h9⟩, h10⟩ := h
      obtain ⟨Ds, h0, h5, h6⟩ := cls_list (a := a) (oe := oe) (pn := pn) M G hm _ _ h4 fun e he => List.all_eq_true.mp h9 e he
      obtain ⟨yo, po, rfl, _, _, _, _⟩ := nm_ok M h3
      refine peImp (pe_callB (call_isX (fs := []) (X := X) (G.xi _ hm).1 hz hf) (M.globS h2) (G.xs hne) (by decide +kernel) (pa_cons (pe_err M h3) (pa_cons (pe_tup h5) pa_nil (star_cons rfl)) (star_cons rfl)) (by decide) (by decide) (star_cons rfl) (by rfl)) fun σ H Q ⟨ρ, cs, m, f, s, q⟩ => ?_
      obtain ⟨vs, h7, h8⟩ := s.xd
      refine ⟨_, s.at_, by rw [List.length_map, h0, sizeLine_eq]; omega, fun p hp => ?_⟩
      have nd : dd ≠ p := ne_of_none h7 hp
      exact ⟨⟨_, by rw [upd_ne nd]; exact h7⟩, _, .inr ⟨p, _, _, rfl, upd_same, fun ws r => vals_refs r, h6⟩, q _ (Keep.new hp) (cells_new s.cel hp)⟩
    · cases h
  | .isv, e, h => by
    have hm : x.cls ∈ XT.al := List.contains_iff_mem.mp hc
    have hne : XT.al ≠ [] := fun e => by rw [e] at hm; cases hm
    have h : kIsv XT c i e = true := h
    unfold kIsv at h
    split at h
    · simp only [Bool.and_eq_true, decide_eq_true_eq] at h
      obtain ⟨⟨⟨⟨rfl, h2⟩, h3⟩, rfl⟩, h5⟩ := h
      obtain ⟨yo, po, rfl, _, _, _, _⟩ := nm_ok M h3
      refine peImp (pe_callB (call_isX (fs := []) (X := X) (G.xi _ hm).1 hz hf) (M.globS h2) (G.xs hne) (by decide +kernel) (pa_cons (pe_err M h3) (pa_cons (pe_bltn (v := .ty "ValueError") (M.globS h5) (G.xb hne) (by decide +kernel) rfl (by decide) (by decide)) pa_nil (star_cons rfl)) (star_cons rfl)) (by decide) (by decide) (star_cons rfl) (by rfl)) fun σ H Q ⟨ρ, cs, m, f, s, q⟩ => ?_
      obtain ⟨vs, h7, h8⟩ := s.xd
      exact ⟨_, s.at_, ⟨_, h7⟩, _, .inl ⟨.ty "ValueError", .type "ValueError", rfl, fun u r => r, G.xv _ hm⟩, q H Keep.refl s.cel⟩
    · cases h
  | .not a, e, h => by cases h
  | .and a b, e, h => by cases h
  | .or a b, e, h => by cases h
theorem isx_plain {ms : List Nat} {e : Expr} (h : kIsx XT c i ms e = true) : plainT e = true := by
  unfold kIsx at h
  split at h
  · rfl
  · rfl
  · cases h
theorem isv_plain {e : Expr} (h : kIsv XT c i e = true) : plainT e = true := by
  unfold kIsv at h
  split at h
  · rfl
  · cases h
def ResH (K : PySem.W.Frag) (Y : Cx) (x : Xn) (a dd : Addr) (i : Nat) (e : Expr) (t : Mi.Ht) : Prop := PT Y e (tHt K x a dd i t) ∧ (isBo e = true → PW Y e (tHt K x a dd i t))
theorem ht_ok (M : Mt T O CA k c X) (G : Gx XT CA X.prog X.K X.mg) (hc : XT.al.contains x.cls = true) (hz : Zc (.ref (CA x.cls)) (some dd) oe) (hf : ∃ vs, oe.data = .fields vs) : ∀ (t : Mi.Ht) (e : Expr), kHt XT c i t e = true → ResH X.K (X.suite a ((a, oe) :: pn)) x a dd i e t
  | .isx ms, e, h => by
    have h : kIsx XT c i ms e = true := h
    have pl := isx_plain h
    refine ⟨ptImp (pt_val (hb_ok M G hc hz hf (.isx ms) e h) (plainT_ok pl)) fun σ H Q ⟨ρ, cs, m, f, s, q⟩ => ⟨ρ, cs, m, f, s, fun H' k' c' => ⟨_, rfl, q H' k' c'⟩⟩, fun b => ?_⟩
    rw [plainT_bo pl] at b
    cases b
  | .isv, e, h => by
    have h : kIsv XT c i e = true := h
    have pl := isv_plain h
    refine ⟨ptImp (pt_val (hb_ok M G hc hz hf .isv e h) (plainT_ok pl)) fun σ H Q ⟨ρ, cs, m, f, s, q⟩ => ⟨ρ, cs, m, f, s, fun H' k' c' => ⟨_, rfl, q H' k' c'⟩⟩, fun b => ?_⟩
    rw [plainT_bo pl] at b
    cases b
  | .not t, e, h => by
    unfold kHt at h
    split at h
    · refine ⟨ptImp (pt_not (ht_ok M G hc hz hf t _ h).1) fun σ H Q ⟨ρ, cs, m, f, s, q⟩ => ⟨ρ, cs, m, f, s, fun H' k' c' => q H' k' c'⟩, fun b => by cases b⟩
    · cases h
  | .and t u, e, h => by
    unfold kHt at h
    split at h
    · rename_i pos
      simp only [Bool.and_eq_true] at h
      have q := and_pw (pos := pos) (ht_ok M G hc hz hf t _ h.1).1 (pw_and1 (ht_ok M G hc hz hf u _ h.2).1)
      exact ⟨q.pt, fun _ => q⟩
    · simp only [Bool.and_eq_true] at h
      have q := and_pw (ht_ok M G hc hz hf t _ h.1).1 ((ht_ok M G hc hz hf u _ h.2).2 rfl)
      exact ⟨q.pt, fun _ => q⟩
    · cases h
  | .or t u, e, h => by
    unfold kHt at h
    split at h
    · rename_i pos
      simp only [Bool.and_eq_true] at h
      have q := or_pw (pos := pos) (ht_ok M G hc hz hf t _ h.1).1 (pw_or1 (ht_ok M G hc hz hf u _ h.2).1)
      exact ⟨q.pt, fun _ => q⟩
    · simp only [Bool.and_eq_true] at h
      have q := or_pw (ht_ok M G hc hz hf t _ h.1).1 ((ht_ok M G hc hz hf u _ h.2).2 rfl)
      exact ⟨q.pt, fun _ => q⟩
    · cases h
mutual
theorem hst_ok (M : Mt T O CA k c X) (G : Gx XT CA X.prog X.K X.mg) (hc : XT.al.contains x.cls = true) (hz : Zc (.ref (CA x.cls)) (some dd) oe) (hf : ∃ vs, oe.data = .fields vs) : ∀ (s : Mi.Hst) (st : Stmt), kHst XT c i s st = true → PS (X.suite a ((a, oe) :: pn)) st (tHs X.K x a dd i fun ρ => Mi.hsE x ρ s)
  | .ret v, st, h => by
    unfold kHst at h
    split at h
    · refine psImp (ps_ret (hv_ok M G hc hz hf v _ h)) fun D σ H ⟨ρ, cs, m, f, s, q⟩ => ?_
      dsimp only at q
      rw [Mi.hsE] at q
      cases e : Mi.hvE x ρ v with
      | none => rw [e] at q; exact q.elim
      | some w =>
        rw [e] at q
        exact ⟨ρ, cs, m, f, w, s, e, fun u H' k' r' c' => q u H' k' r' c'⟩
    · cases h
  | .retb t, st, h => by
    unfold kHst at h
    split at h
    · refine psImp (ps_ret (hb_ok M G hc hz hf t _ h)) fun D σ H ⟨ρ, cs, m, f, s, q⟩ => ?_
      dsimp only at q
      rw [Mi.hsE] at q
      exact ⟨ρ, cs, m, f, s, fun H' k' c' => q _ H' k' (.bl _) c'⟩
    · cases h
  | .ife t a' b', st, h => by
    unfold kHst at h
    split at h
    · simp only [Bool.and_eq_true] at h
      refine psImp (ps_if (ht_ok M G hc hz hf t _ h.1.1).1 (hss_ok M G hc hz hf a' _ h.1.2) (hss_ok M G hc hz hf b' _ h.2)) fun D σ H ⟨ρ, cs, m, f, s, q⟩ => ⟨ρ, cs, m, f, s, fun H' k' c' => ?_⟩
      dsimp only at q
      rw [Mi.hsE] at q
      by_cases hb : Mi.htE x t = true
      · rw [if_pos hb] at q ⊢
        exact ⟨ρ, cs, m, f, s.mono k' c', phs_mono k' q⟩
      · rw [if_neg hb] at q ⊢
        exact ⟨ρ, cs, m, f, s.mono k' c', phs_mono k' q⟩
    · cases h
theorem hss_ok (M : Mt T O CA k c X) (G : Gx XT CA X.prog X.K X.mg) (hc : XT.al.contains x.cls = true) (hz : Zc (.ref (CA x.cls)) (some dd) oe) (hf : ∃ vs, oe.data = .fields vs) : ∀ (s : Mi.Hss) (st : List Stmt), kHss XT c i s st = true → PSs (X.suite a ((a, oe) :: pn)) st (tHs X.K x a dd i fun ρ => Mi.hssE x ρ s)
  | .nil, st, h => by
    cases st with
    | nil =>
      refine pssImp pss_nil fun D σ H ⟨ρ, cs, m, f, s, q⟩ => ?_
      dsimp only at q
      rw [Mi.hssE] at q
      exact q H Keep.refl s.cel
    | cons e es => cases h
  | .cons s ss, st, h => by
    unfold kHss at h
    split at h
    · simp only [Bool.and_eq_true] at h
      refine pssImp (pss_cons (hst_ok M G hc hz hf s _ h.1) (hss_ok M G hc hz hf ss _ h.2)) fun D σ H ⟨ρ, cs, m, f, sh, q⟩ => ⟨ρ, cs, m, f, sh, ?_⟩
      dsimp only at q
      rw [Mi.hssE] at q
      cases e : Mi.hsE x ρ s with
      | none => rw [e] at q; exact q.elim
      | some o =>
        rw [e] at q
        cases o with
        | none =>
          show PHs X.K m f H cs σ _ (Mi.hsE x ρ s)
          rw [e]
          exact fun H' k' c' => ⟨ρ, cs, m, f, sh.mono k' c', phs_mono k' q⟩
        | some w =>
          show PHs X.K m f H cs σ _ (Mi.hsE x ρ s)
          rw [e]
          exact q
    · cases h
end
end
end So
end S_Hand2

section S_Try
set_option Elab.async false
set_option linter.all false
set_option maxRecDepth 100000
set_option maxHeartbeats 4000000
/-! Try: try: .. except C as e: .. -/
namespace So
open PySem PySem.Spec PyProof.Rows L2
open Mi (W Ob Xn R Orc)
section
variable {O : Orc} {K : PySem.W.Frag} {CA : Nat → Addr} {Wx : WX} {wr : List Nat} {σ σ' : LS} {H : Hp} {D : Ends} {ρ : ME} {m f : List Addr}
theorem env_unwipe (env : EnvR K H m f ρ σ) (ag : Agree wr σ σ') : EnvR K H m f (Mi.wipe ρ wr) σ' := by
  have e1 := env.wipe wr
  rw [← wipe_agree ag] at e1
  refine ⟨e1.1.trans (L2.wipe_length _ _), fun i w h => ?_⟩
  obtain ⟨v, h1, h2⟩ := e1.2 i w h
  refine ⟨v, ?_, h2⟩
  have hi : i ∉ wr := fun hi => by
    have hl : i < σ'.length := by
      have := (List.getElem?_eq_some_iff.mp h1).1
      rwa [L2.wipe_length] at this
    rw [wipe_in hi hl] at h1
    cases h1
  rw [← h1]
  exact (agree_wipe (σ := σ') (wr := wr)).2 i hi
theorem env_off (env : EnvR K H m f ρ σ) (i : Nat) (v : Option V) : EnvR K H m f (ρ.set i none) (σ.set i v) := by
  refine ⟨by rw [List.length_set, List.length_set]; exact env.1, fun j w h => ?_⟩
  by_cases e : i = j
  · subst e
    rw [List.getElem?_set] at h
    simp only [if_true] at h
    split at h <;> cases h
  · rw [List.getElem?_set_ne e] at h ⊢
    exact env.2 j w h
/-- the reading of the suite -/
def tsH (K : PySem.W.Frag) (CA : Nat → Addr) (al : List Nat) (i : Nat) (h : Mi.Hss) (a : Addr) (cls : Value) (d : Option Addr) : TS := fun D σ H => ∃ x dd, al.contains x.cls = true ∧ cls = .ref (CA x.cls) ∧ d = some dd ∧ tHs K x a dd i (fun ρ => Mi.hssE x ρ h) D σ H
theorem try_ok {wrB al ms : List Nat} {b : Mi.Ss} {i : Nat} {h : Mi.Hss} {cV : Value} (hi : i ∈ wr) (hw : ∀ j ∈ wrB, j ∈ wr) (hx : ∀ n, al.contains n = true → PySem.W.exmOne K (.ref (CA n)) cV = some (ms.contains n)) (z : tS O K CA Wx wr (.tryA wrB b al ms i h) D σ H) :
    tSs O K CA (wAs K cV i (tsH K CA al i h) Wx D) wrB b D σ H := by
  obtain ⟨H0, m0, f, σ0, ρ, cs, m, kp, ag, env, c, z⟩ := z
  refine ⟨H, m, f, σ, ρ, cs, m, Keep.refl, Agree.refl, env, c, ?_⟩
  have up : ∀ {τ : LS}, Agree wrB σ τ → Agree wr σ0 τ := fun {τ} a => ag.trans ⟨a.1, fun j hj => a.2 j fun q => hj (hw j q)⟩
  rw [Mi.run] at z
  show Rw _ (Mi.runs O b ρ cs) _
  cases e : Mi.runs O b ρ cs with
  | bad =>
    rw [e] at z
    exact z
  | ok fl cs1 =>
    rw [e] at z
    have z : PSm K wr H0 m0 f σ0 D fl cs1 := z
    show PSm K wrB H m f σ D fl cs1
    cases fl with
    | nx ρ' => exact fun H' m' τ k' a' => z H' m' τ (kp.trans k') (up a')
    | bk ρ' => exact fun H' m' τ k' a' => z H' m' τ (kp.trans k') (up a')
    | ct ρ' => exact fun H' m' τ k' a' => z H' m' τ (kp.trans k') (up a')
    | ret w => exact fun v H' m' k' o => z v H' m' (kp.trans k') (o.back kp)
  | exn x cs1 =>
    rw [e] at z
    dsimp only at z
    intro cls d H' m' τ k' c' r' a'
    split at z
    · rename_i hal
      rw [Bool.and_eq_true] at hal
      obtain ⟨rc, dd, vs, rd, rl, rr⟩ := r'
      refine ⟨ms.contains x.cls, by rw [rc]; exact hx _ hal.1, fun hb a ha => ?_, fun hb => ?_⟩
      · rw [if_pos hb] at z
        have hlen : i < τ.length := by
          have := of_decide_eq_true hal.2
          rw [env.1] at this
          rw [← a'.1]
          exact this
        refine ⟨x, dd, hal.1, rc, rd, (Mi.wipe ρ wrB).set i none, cs1, m', f, ⟨env_off (env_unwipe (env.mono k') a') i _, c', ⟨vs, rl, rr⟩, List.getElem?_set_self hlen⟩, ?_⟩
        show PHs K m' f H' cs1 _ _ (Mi.hssE x ((Mi.wipe ρ wrB).set i none) h)
        cases e2 : Mi.hssE x ((Mi.wipe ρ wrB).set i none) h with
        | none =>
          rw [e2] at z
          exact z.elim
        | some o =>
          rw [e2] at z
          cases o with
          | none =>
            intro H2 k2 c2
            have z : PSm K wr H0 m0 f σ0 D (.nx ((Mi.wipe ρ wrB).set i none)) cs1 := z
            refine z H2 m' _ ((kp.trans k').trans k2) (((up a').set hi).set hi) ?_ c2
            rw [List.set_set]
            exact env_off (env_unwipe (env.mono (k'.trans k2)) a') i _
          | some w =>
            intro v H2 k2 r2 c2
            have z : PSm K wr H0 m0 f σ0 D (.ret w) cs1 := z
            exact z v H2 m' ((kp.trans k').trans k2) (.old r2 c2)
      · rw [if_neg (by rw [hb]; exact Bool.false_ne_true)] at z
        have z : ZSm K CA Wx wr H0 m0 f σ0 x cs1 := z
        exact z cls d H' m' τ (kp.trans k') c' ⟨rc, dd, vs, rd, rl, rr⟩ (up a')
    · exact z.elim
end
section
variable {T : Tb} {O : Orc} {CA : Nat → Addr} {k : Nat} {c : Cc} {X : Cx}
theorem suite_ok (M : Mt T O CA k c X) {i : Nat} {h : Mi.Hss} {st : List Stmt} (hk : kHss T.x c i h st = true) (a : Addr) (oe : Obj) (cls : Value) (d : Option Addr) (pn : List (Addr × Obj)) (hz : Zc cls d oe) (hf : ∃ vs, oe.data = .fields vs) : PSs (X.suite a ((a, oe) :: pn)) st (tsH X.K CA T.x.al i h a cls d) := by
  refine ⟨fun pins s σ H D I q => ?_⟩
  obtain ⟨x, dd, h1, rfl, rfl, p⟩ := q
  exact (hss_ok M M.gd.gx h1 hz hf h _ hk).run pins s σ H D I p
theorem Mt.tr (M : Mt T O CA k c X) (pn : List (Addr × Obj)) (xe : Value → Shared → Prop) : Mt T O CA k c (X.tr pn xe) := ⟨M.gd, M.room, M.k2, M.calm, M.nd, M.N, M.sc, M.fn⟩
end
end So
end S_Try

section S_Check3
set_option Elab.async false
set_option linter.all false
set_option maxRecDepth 100000
set_option maxHeartbeats 8000000
/-! Check3: what is checked holds: expressions. -/
namespace So
open PySem PySem.Spec PyProof.Rows L2
open Mi (W Ob Xn R Orc)
/-- the parts of a comprehension -/
structure CompOk (O : Orc) (CA : Nat → Addr) (Wx : WX) (X : Cx) (tg iter elt : Expr) (ifs : List Expr) (scope : Scope) (own : List (Str × Nat)) (it : Mi.It) (g : Mi.Tg) (cd : Mi.OEx) (el : Mi.Ex) : Prop where
  hi : PI X tg iter (tI O X.K CA Wx it)
  ok : BlkOk X.N X.env.scope scope own
  hw : ∀ i ∈ tgIx g, i ∈ own.map (·.2)
  hg : ∀ (s : Shared) (H : Hp) (C : Addr) (cl : List (Str × Addr)) (fp : List Addr), PG (X.blk s H scope (compEnvC scope cl C X.env) fp) tg (gM X.K g)
  ht : ∀ (s : Shared) (H : Hp) (C : Addr) (cl : List (Str × Addr)) (fp : List Addr), PTs (X.blk s H scope (compEnvC scope cl C X.env) fp) ifs (tC O X.K CA noW cd)
  he : ∀ (s : Shared) (H : Hp) (C : Addr) (cl : List (Str × Addr)) (fp : List Addr), PE (X.blk s H scope (compEnvC scope cl C X.env) fp) elt (tE O X.K CA noW el)
  hs : ∀ x, foldedSetIterable iter X.env x = pure x
section
variable {T : Tb} {O : Orc} {CA : Nat → Addr} {k : Nat}
mutual
theorem kE_ok : ∀ (e : Mi.Ex) (t : Bool) (c : Cc) (X : Cx) (x : Expr) (Wx : WX), Mt T O CA k c X → Takes X Wx → kE T e t c x = true → Res O CA t X x e Wx
  | .var i, t, c, X, x, Wx, M, tk, h => by
    unfold kE at h
    split at h
    · simp only [Bool.and_eq_true] at h
      obtain ⟨⟨h1, h2⟩, h3⟩ := h
      obtain ⟨g1, g2, g3⟩ := okN_ok h3
      exact .val (te_var (M.slot h1) (M.vis h2) g1 g2) rfl
    · cases h
  | .non, t, c, X, x, Wx, M, tk, h => by
    unfold kE at h
    split at h
    · exact .val te_non rfl
    · cases h
  | .bl b, t, c, X, x, Wx, M, tk, h => by
    unfold kE at h
    split at h
    · have e := eq_of_beq h
      subst e
      exact .val te_bl rfl
    · cases h
  | .int i, t, c, X, x, Wx, M, tk, h => by
    unfold kE at h
    split at h
    · have e := of_decide_eq_true h
      subst e
      exact .val te_int rfl
    · cases h
  | .str s, t, c, X, x, Wx, M, tk, h => by
    unfold kE at h
    split at h
    · have e := of_decide_eq_true h
      subst e
      exact .val te_str rfl
    · cases h
  | .glob y, t, c, X, x, Wx, M, tk, h => by
    unfold kE at h
    split at h
    · simp only [Bool.and_eq_true, decide_eq_true_eq] at h
      obtain ⟨⟨⟨h0, h1⟩, h2⟩, h3⟩ := h
      subst h0
      obtain ⟨g1, g2, g3⟩ := okN_ok h3
      obtain ⟨w, v, u, e1, e2, e3, e4⟩ := M.gd.gl _ h2
      exact .val (te_glob (M.glob h1) e2 e3 g1 e1 e4) rfl
    · cases h
  | .bin op a b, t, c, X, x, Wx, M, tk, h => by
    unfold kE at h
    split at h
    · simp only [Bool.and_eq_true] at h
      obtain ⟨⟨h0, h1⟩, h2⟩ := h
      have e := isOp_eq h0
      subst e
      exact .val (te_bin ((kE_ok a _ _ _ _ _ M tk h1).1 rfl) ((kE_ok b _ _ _ _ _ M tk h2).1 rfl)) rfl
    · cases h
  | .neg a, t, c, X, x, Wx, M, tk, h => by
    unfold kE at h
    split at h
    · exact .val (te_neg ((kE_ok a _ _ _ _ _ M tk h).1 rfl)) rfl
    · cases h
  | .not a, t, c, X, x, Wx, M, tk, h => by
    unfold kE at h
    split at h
    · refine ⟨fun e => ?_, fun e => ⟨?_, fun b => by cases b⟩⟩
      · exact te_not ((kE_ok a _ _ _ _ _ M tk h).1 e)
      · exact tt_not ((kE_ok a _ _ _ _ _ M tk h).2 e).1
    · cases h
  | .and a b, t, c, X, x, Wx, M, tk, h => by
    unfold kE at h
    split at h
    · rename_i pos
      simp only [Bool.and_eq_true] at h
      have qa := kE_ok a _ _ _ _ _ M tk h.1
      have qb := kE_ok b _ _ _ _ _ M tk h.2
      refine ⟨fun e => te_and (qa.1 e) (pe_one (qb.1 e)), fun e => ?_⟩
      have q := tw_and (pos := pos) (qa.2 e).1 (pw_and1 (qb.2 e).1)
      exact ⟨q.pt, fun _ => q⟩
    · simp only [Bool.and_eq_true] at h
      have qa := kE_ok a _ _ _ _ _ M tk h.1
      have qb := kE_ok b _ _ _ _ _ M tk h.2
      refine ⟨fun e => te_and (qa.1 e) (qb.1 e), fun e => ?_⟩
      have q := tw_and (qa.2 e).1 ((qb.2 e).2 rfl)
      exact ⟨q.pt, fun _ => q⟩
    · cases h
  | .or a b, t, c, X, x, Wx, M, tk, h => by
    unfold kE at h
    split at h
    · rename_i pos
      simp only [Bool.and_eq_true] at h
      have qa := kE_ok a _ _ _ _ _ M tk h.1
      have qb := kE_ok b _ _ _ _ _ M tk h.2
      refine ⟨fun e => te_or (qa.1 e) (pe_one (qb.1 e)), fun e => ?_⟩
      have q := tw_or (pos := pos) (qa.2 e).1 (pw_or1 (qb.2 e).1)
      exact ⟨q.pt, fun _ => q⟩
    · simp only [Bool.and_eq_true] at h
      have qa := kE_ok a _ _ _ _ _ M tk h.1
      have qb := kE_ok b _ _ _ _ _ M tk h.2
      refine ⟨fun e => te_or (qa.1 e) (qb.1 e), fun e => ?_⟩
      have q := tw_or (qa.2 e).1 ((qb.2 e).2 rfl)
      exact ⟨q.pt, fun _ => q⟩
    · cases h
  | .cmp op a b, t, c, X, x, Wx, M, tk, h => by
    unfold kE at h
    have hu : X.A.units + 64 < cLine := by
      have := M.room.un
      omega
    split at h
    · simp only [Bool.and_eq_true, Bool.not_eq_true'] at h
      obtain ⟨⟨⟨h0, hm⟩, h1⟩, h2⟩ := h
      have e := isCop_eq h0
      subst e
      have qa := (kE_ok a _ _ _ _ _ M tk h1).1 rfl
      have qb := (kE_ok b _ _ _ _ _ M tk h2).1 rfl
      exact ⟨fun _ => te_cmp hu qa qb hm, fun _ => ⟨tt_cmp hu qa qb hm, fun b => by cases b⟩⟩
    · cases h
  | .chain op op' a b d, t, c, X, x, Wx, M, tk, h => by
    unfold kE at h
    have hu : X.A.units + 64 < cLine := by
      have := M.room.un
      omega
    split at h
    · simp only [Bool.and_eq_true, Bool.not_eq_true'] at h
      obtain ⟨⟨⟨⟨⟨h0, h0'⟩, hm⟩, h1⟩, h2⟩, h3⟩ := h
      have e := isCop_eq h0
      have e' := isCop_eq h0'
      subst e e'
      have qa := (kE_ok a _ _ _ _ _ M tk h1).1 rfl
      have qb := (kE_ok b _ _ _ _ _ M tk h2).1 rfl
      have qd := (kE_ok d _ _ _ _ _ M tk h3).1 rfl
      exact ⟨fun _ => te_chain hu qa qb qd hm, fun _ => ⟨tt_chain hu qa qb qd hm, fun b => by cases b⟩⟩
    · cases h
  | .ifx q a b, t, c, X, x, Wx, M, tk, h => by
    unfold kE at h
    split at h
    · simp only [Bool.and_eq_true, Bool.not_eq_true'] at h
      obtain ⟨⟨⟨h0, h1⟩, h2⟩, h3⟩ := h
      subst h0
      exact ⟨fun _ => te_ifx ((kE_ok q _ _ _ _ _ M tk h1).2 rfl).1 ((kE_ok a _ _ _ _ _ M tk h2).1 rfl) ((kE_ok b _ _ _ _ _ M tk h3).1 rfl), fun e => by cases e⟩
    · cases h
  | .callP f as, t, c, X, x, Wx, M, tk, h => by
    unfold kE at h
    split at h
    · simp only [Bool.and_eq_true] at h
      obtain ⟨⟨⟨h0, h1⟩, h2⟩, h3⟩ := h
      obtain ⟨g1, g2, g3⟩ := okN_ok h2
      have hst := kAs_star h3
      unfold isDf at h0
      split at h0
      · rename_i n e
        have e0 := eq_of_beq h0
        subst e0
        obtain ⟨fa, fd, ps, q1, q2, q3, q4, _⟩ := M.gd.df _ _ e
        exact .val (te_callP tk q3 M.room (M.glob h1) q1 q2 q4 (kAs_ok as _ _ _ _ M tk h3) g1 (star_cons (hst _ List.mem_cons_self)) (star_any fun e' h' => hst e' (List.mem_cons_of_mem _ h'))) rfl
      · cases h0
    · cases h
  | .callH f as, t, c, X, x, Wx, M, tk, h => by
    unfold kE at h
    split at h
    · simp only [Bool.and_eq_true] at h
      obtain ⟨⟨⟨h0, h1⟩, h2⟩, h3⟩ := h
      obtain ⟨g1, g2, g3⟩ := okN_ok h2
      have hst := kAs_star h3
      unfold isDf at h0
      split at h0
      · rename_i n e
        have e0 := eq_of_beq h0
        subst e0
        obtain ⟨fa, fd, ps, q1, q2, q3, q4, _⟩ := M.gd.df _ _ e
        exact .val (te_callH tk q3 M.room (M.glob h1) q1 q2 q4 (kAs_ok as _ _ _ _ M tk h3) g1 (star_cons (hst _ List.mem_cons_self)) (star_any fun e' h' => hst e' (List.mem_cons_of_mem _ h'))) rfl
      · cases h0
    · cases h
  | .callPK f as pm, t, c, X, x, Wx, M, tk, h => by
    unfold kE at h
    split at h
    · simp only [Bool.and_eq_true] at h
      obtain ⟨⟨⟨⟨⟨h0, h1⟩, h2⟩, hk⟩, ha⟩, h3⟩ := h
      obtain ⟨g1, g2, g3⟩ := okN_ok h2
      unfold isDf at h0
      split at h0
      · rename_i n e
        have e0 := eq_of_beq h0
        subst e0
        obtain ⟨fa, fd, ps, q1, q2, q3, q4, q5⟩ := M.gd.df _ _ e
        refine .val (te_callPK tk q3 M.room (M.glob h1) q1 q2 (q5 _ _ hk) (kKs_ok as _ _ _ _ M tk h3) (kw_all ha).1 (kw_all ha).2.1 g1 ?_) rfl
        show (false || _) = false
        rw [Bool.false_or]
        exact (kw_all ha).2.2
      · cases h0
    · cases h
  | .callHK f as pm, t, c, X, x, Wx, M, tk, h => by
    unfold kE at h
    split at h
    · simp only [Bool.and_eq_true] at h
      obtain ⟨⟨⟨⟨⟨h0, h1⟩, h2⟩, hk⟩, ha⟩, h3⟩ := h
      obtain ⟨g1, g2, g3⟩ := okN_ok h2
      unfold isDf at h0
      split at h0
      · rename_i n e
        have e0 := eq_of_beq h0
        subst e0
        obtain ⟨fa, fd, ps, q1, q2, q3, q4, q5⟩ := M.gd.df _ _ e
        refine .val (te_callHK tk q3 M.room (M.glob h1) q1 q2 (q5 _ _ hk) (kKs_ok as _ _ _ _ M tk h3) (kw_all ha).1 (kw_all ha).2.1 g1 ?_) rfl
        show (false || _) = false
        rw [Bool.false_or]
        exact (kw_all ha).2.2
      · cases h0
    · cases h
  | .blt b as, t, c, X, x, Wx, M, tk, h => by
    unfold kE at h
    split at h
    · simp only [Bool.and_eq_true, decide_eq_true_eq] at h
      obtain ⟨⟨⟨h0, h1⟩, h2⟩, h3⟩ := h
      subst h1
      exact .val (blt_each M.calm h0 (M.glob h2) (M.gd.bl _ (bltN_mem b)) (kAs_ok as _ _ _ _ M tk h3) (kAs_star h3)) rfl
    · cases h
  | .listI a b, t, c, X, x, Wx, M, tk, h => by
    unfold kE at h
    split at h
    · simp only [Bool.and_eq_true, decide_eq_true_eq] at h
      obtain ⟨⟨⟨⟨⟨⟨⟨h0, h1⟩, h2⟩, h3⟩, h4⟩, h5⟩, h6⟩, h7⟩ := h
      subst h0 h2
      exact .val (te_listI M.calm (M.glob h1) (M.gd.bl _ (by decide)) (M.glob h3) (M.gd.bl _ (by decide)) ((kE_ok a _ _ _ _ _ M tk h6).1 rfl) ((kE_ok b _ _ _ _ _ M tk h7).1 rfl) (star_cons h4) (star_cons h5)) rfl
    · cases h
  | .listJ a, t, c, X, x, Wx, M, tk, h => by
    unfold kE at h
    split at h
    · simp only [Bool.and_eq_true, decide_eq_true_eq] at h
      obtain ⟨⟨⟨⟨⟨h0, h1⟩, h2⟩, h3⟩, h4⟩, h6⟩ := h
      subst h0 h2
      exact .val (te_listJ M.calm (M.glob h1) (M.gd.bl _ (by decide)) (M.glob h3) (M.gd.bl _ (by decide)) ((kE_ok a _ _ _ _ _ M tk h6).1 rfl) (star_cons h4)) rfl
    · cases h
  | .listR a, t, c, X, x, Wx, M, tk, h => by
    unfold kE at h
    split at h
    · simp only [Bool.and_eq_true, decide_eq_true_eq] at h
      obtain ⟨⟨⟨⟨⟨h0, h1⟩, h2⟩, h3⟩, h4⟩, h6⟩ := h
      subst h0 h2
      exact .val (te_listR M.calm (M.glob h1) (M.gd.bl _ (by decide)) (M.glob h3) (M.gd.bl _ (by decide)) ((kE_ok a _ _ _ _ _ M tk h6).1 rfl) (star_cons h4)) rfl
    · cases h
  | .sortS a, t, c, X, x, Wx, M, tk, h => by
    unfold kE at h
    split at h
    · simp only [Bool.and_eq_true, decide_eq_true_eq] at h
      obtain ⟨⟨⟨⟨⟨h0, h1⟩, h2⟩, h3⟩, h4⟩, h6⟩ := h
      subst h0 h2
      exact .val (te_sortS M.calm (M.glob h1) (M.gd.bl _ (by decide)) (M.glob h3) (M.gd.bl _ (by decide)) ((kE_ok a _ _ _ _ _ M tk h6).1 rfl) (star_cons h4)) rfl
    · cases h
  | .meth m o as, t, c, X, x, Wx, M, tk, h => by
    unfold kE at h
    split at h
    · simp only [Bool.and_eq_true, decide_eq_true_eq] at h
      obtain ⟨⟨⟨⟨⟨h0, h1⟩, h2⟩, h3⟩, h4⟩, h5⟩ := h
      subst h0
      have qo := (kE_ok o _ _ _ _ _ M tk h3).1 rfl
      have qa := kAs_ok as _ _ _ _ M tk h4
      have hst := kAs_star h4
      split at h5
      · cases as with
        | nil => exact .val (te_pop qo (noCall_ok h1) h2) rfl
        | cons a as =>
          unfold kAs at h4
          cases h4
      · exact .val (te_popAt qo qa (noCall_ok h1) h2 (star_cons (hst _ List.mem_cons_self))) rfl
      · exact .val (te_append qo qa (noCall_ok h1) h2 (star_cons (hst _ List.mem_cons_self))) rfl
      · exact .val (te_extend qo qa (noCall_ok h1) h2 (star_cons (hst _ List.mem_cons_self))) rfl
      · exact .val (te_remove qo qa (noCall_ok h1) h2 (star_cons (hst _ List.mem_cons_self))) rfl
      · cases h5
    · cases h
  | .isi a ty, t, c, X, x, Wx, M, tk, h => by
    unfold kE at h
    split at h
    · simp only [Bool.and_eq_true, decide_eq_true_eq] at h
      obtain ⟨⟨⟨⟨⟨h0, h1⟩, h2⟩, h3⟩, h4⟩, h5⟩ := h
      subst h0 h2
      exact .val (te_isi ((kE_ok a _ _ _ _ _ M tk h5).1 rfl) (M.glob h1) rfl (M.gd.bl _ (by decide)) (M.glob h3) (M.gd.bl _ (tyOf_mem ty)) (by cases ty <;> decide +kernel) (by cases ty <;> decide) (by cases ty <;> decide) (star_cons h4)) rfl
    · cases h
  | .sub a i, t, c, X, x, Wx, M, tk, h => by
    unfold kE at h
    split at h
    · simp only [Bool.and_eq_true] at h
      exact .val (te_sub ((kE_ok a _ _ _ _ _ M tk h.1.2).1 rfl) ((kE_ok i _ _ _ _ _ M tk h.2).1 rfl) (noSlice_ok h.1.1)) rfl
    · cases h
  | .slice a lo hi, t, c, X, x, Wx, M, tk, h => by
    unfold kE at h
    split at h
    · simp only [Bool.and_eq_true] at h
      exact .val (te_slice ((kE_ok a _ _ _ _ _ M tk h.1.1).1 rfl) (kO_ok lo _ _ _ _ M tk h.1.2) (kO_ok hi _ _ _ _ M tk h.2)) rfl
    · cases h
  | .list as, t, c, X, x, Wx, M, tk, h => by
    unfold kE at h
    split at h
    · exact .val (te_list (kAs_ok as _ _ _ _ M tk h)) rfl
    · cases h
  | .tuple as, t, c, X, x, Wx, M, tk, h => by
    unfold kE at h
    split at h
    · exact .val (te_tuple (kAs_ok as _ _ _ _ M tk h)) rfl
    · cases h
  | .comp el g it cd own, t, c, X, x, Wx, M, tk, h => by
    unfold kE at h
    split at h
    · rename_i e tg i ifs scope pos
      simp only [Bool.and_eq_true] at h
      obtain ⟨⟨⟨⟨⟨⟨h1, h2⟩, h3⟩, h4⟩, h5⟩, h6⟩, h7⟩ := h
      have q : CompOk O CA Wx X tg i e ifs scope (ownN c own) it g cd el := by
        refine ⟨kI_ok it _ _ _ _ _ M tk h1, ?_, fun j hj => ?_, fun s H C cl fp => kG_ok (M.blk s H scope C cl fp) h5, fun s H C cl fp => ?_, fun s H C cl fp => ?_, noSet_ok h2⟩
        · rw [M.N, M.sc]
          exact blkOk_by h3
        · rw [ownN_snd]
          exact List.contains_iff_mem.mp (List.all_eq_true.mp h4 j hj)
        · cases cd with
          | none =>
            cases ifs with
            | nil => exact tc_none
            | cons y ys => cases h7
          | some q =>
            cases ifs with
            | nil => cases h7
            | cons y ys =>
              cases ys with
              | nil => exact tc_some ((kE_ok q _ _ _ _ noW (M.blk s H scope C cl fp) takes0 h7).2 rfl).1
              | cons z zs => cases h7
        · exact (kE_ok el _ _ _ _ noW (M.blk s H scope C cl fp) takes0 h6).1 rfl
      have r := te_comp (pos := pos) M.calm M.nd q.hi q.ok q.hw q.hg q.ht q.he q.hs
      rw [ownN_snd] at r
      exact .val r rfl
    · cases h
  | .comp2 el g it g1 e1 own own1, t, c, X, x, Wx, M, tk, h => by
    unfold kE at h
    split at h
    · rename_i e tg i tg1 i1 scope pos
      simp only [Bool.and_eq_true] at h
      obtain ⟨⟨⟨⟨⟨⟨⟨⟨⟨⟨h1, h2⟩, h2'⟩, h3⟩, h4⟩, h5⟩, h6⟩, h7⟩, h8⟩, h9⟩, h10⟩ := h
      have hv : ∀ j ∈ own1, j ∈ own := fun j hj => List.contains_iff_mem.mp (List.all_eq_true.mp h6 j hj)
      have r := pe_lc2 (X := X) (elt := e) (tg := tg) (iter := i) (tg1 := tg1) (iter1 := i1) (ifs := []) (ifs1 := []) (wi := tI O X.K CA Wx it) (g := gM X.K g) (tt := tC O X.K CA noW .none) (wi1 := tI O X.K CA noW (.ex e1)) (g1 := gM X.K g1) (tt1 := tC O X.K CA noW .none) (te := tE O X.K CA noW el) (own := ownN c own) (vs1 := own1) (pos := pos) M.calm M.nd (kI_ok it _ _ _ _ _ M tk h1) (by rw [M.N, M.sc]; exact blkOk_by h3) (by rw [ownN_snd]; exact hv) (fun s H C cl fp => kG_ok (M.blk s H scope C cl fp) h7) (fun s H C cl fp => tc_none)
        (fun s H C cl fp => ti_ex ((kE_ok e1 _ _ _ _ noW (M.blk s H scope C cl fp) takes0 h9).1 rfl)) (fun s H C cl fp => kG_ok (M.blk s H scope C cl fp) h8) (fun s H C cl fp => tc_none) (fun s H C cl fp => (kE_ok el _ _ _ _ noW (M.blk s H scope C cl fp) takes0 h10).1 rfl) (noSet_ok h2) (fun env => noSet_ok h2')
      rw [ownN_snd] at r
      exact .val (peImp r fun σ H Q z => comp2_val (fun j hj => List.contains_iff_mem.mp (List.all_eq_true.mp h4 j hj)) (fun j hj => List.contains_iff_mem.mp (List.all_eq_true.mp h5 j hj)) z) rfl
    · cases h
  | .cel a, t, c, X, x, Wx, M, tk, h => by
    unfold kE at h
    simp only [Bool.and_eq_true] at h
    exact .val (te_cel ((kE_ok a _ _ _ _ _ M tk h.2).1 rfl)) h.1
theorem kAs_ok : ∀ (as : Mi.Exs) (c : Cc) (X : Cx) (es : List Expr) (Wx : WX), Mt T O CA k c X → Takes X Wx → kAs T as c es = true → PA X es (tAs O X.K CA Wx as)
  | .nil, c, X, es, Wx, M, tk, h => by
    cases es with
    | nil => exact ta_nil
    | cons e es => cases h
  | .cons a as, c, X, es, Wx, M, tk, h => by
    unfold kAs at h
    split at h
    · simp only [Bool.and_eq_true] at h
      exact ta_cons ((kE_ok a _ _ _ _ _ M tk h.1.2).1 rfl) (kAs_ok as _ _ _ _ M tk h.2) (star_cons h.1.1)
    · cases h
theorem kKs_ok : ∀ (as : Mi.Exs) (c : Cc) (X : Cx) (es : List Keyword) (Wx : WX), Mt T O CA k c X → Takes X Wx → kKs T as c es = true → PK X es (tAs O X.K CA Wx as)
  | .nil, c, X, es, Wx, M, tk, h => by
    cases es with
    | nil => exact tk_nil
    | cons e es => cases h
  | .cons a as, c, X, es, Wx, M, tk, h => by
    unfold kKs at h
    split at h
    · simp only [Bool.and_eq_true] at h
      exact tk_cons ((kE_ok a _ _ _ _ _ M tk h.1).1 rfl) (kKs_ok as _ _ _ _ M tk h.2)
    · cases h
theorem kO_ok : ∀ (a : Mi.OEx) (c : Cc) (X : Cx) (o : Option Expr) (Wx : WX), Mt T O CA k c X → Takes X Wx → kO T a c o = true → PO X o (tOs O X.K CA Wx a)
  | .none, c, X, o, Wx, M, tk, h => by
    cases o with
    | none => exact to_none
    | some e => cases h
  | .some a, c, X, o, Wx, M, tk, h => by
    unfold kO at h
    split at h
    · exact to_some ((kE_ok a _ _ _ _ _ M tk h).1 rfl)
    · cases h
theorem kI_ok : ∀ (it : Mi.It) (c : Cc) (X : Cx) (tg x : Expr) (Wx : WX), Mt T O CA k c X → Takes X Wx → kI T it c tg x = true → PI X tg x (tI O X.K CA Wx it)
  | .ex a, c, X, tg, x, Wx, M, tk, h => by
    unfold kI at h
    exact ti_ex ((kE_ok a _ _ _ _ _ M tk h).1 rfl)
  | .range a, c, X, tg, x, Wx, M, tk, h => by
    unfold kI at h
    split at h
    · simp only [Bool.and_eq_true, decide_eq_true_eq] at h
      obtain ⟨⟨⟨h0, h1⟩, h2⟩, h3⟩ := h
      subst h0
      exact ti_range (M.glob h1) (M.gd.bl _ (by decide)) ((kE_ok a _ _ _ _ _ M tk h3).1 rfl) (star_cons h2)
    · cases h
  | .range2 a b, c, X, tg, x, Wx, M, tk, h => by
    unfold kI at h
    split at h
    · simp only [Bool.and_eq_true, decide_eq_true_eq] at h
      obtain ⟨⟨⟨⟨⟨h0, h1⟩, h2⟩, h3⟩, h4⟩, h5⟩ := h
      subst h0
      exact ti_range2 (M.glob h1) (M.gd.bl _ (by decide)) ((kE_ok a _ _ _ _ _ M tk h4).1 rfl) ((kE_ok b _ _ _ _ _ M tk h5).1 rfl) (star_cons h2) (star_cons h3)
    · cases h
  | .enum a, c, X, tg, x, Wx, M, tk, h => by
    unfold kI at h
    split at h
    · simp only [Bool.and_eq_true, decide_eq_true_eq] at h
      obtain ⟨⟨⟨⟨h0, h1⟩, h2⟩, h3⟩, h4⟩ := h
      subst h0
      cases tg <;> first | (cases h3; done) | exact ti_enum (M.glob h1) (M.gd.bl _ (by decide)) ((kE_ok a _ _ _ _ _ M tk h4).1 rfl) (star_cons h2)
    · cases h
  | .zip a b, c, X, tg, x, Wx, M, tk, h => by
    unfold kI at h
    split at h
    · simp only [Bool.and_eq_true, decide_eq_true_eq] at h
      obtain ⟨⟨⟨⟨⟨⟨h0, h1⟩, h2⟩, h3⟩, h3'⟩, h4⟩, h5⟩ := h
      subst h0
      cases tg <;> first | (cases h3'; done) | exact ti_zip (M.glob h1) (M.gd.bl _ (by decide)) ((kE_ok a _ _ _ _ _ M tk h4).1 rfl) ((kE_ok b _ _ _ _ _ M tk h5).1 rfl) (star_cons h2) (star_cons h3)
    · cases h
  | .rev a, c, X, tg, x, Wx, M, tk, h => by
    unfold kI at h
    split at h
    · simp only [Bool.and_eq_true, decide_eq_true_eq] at h
      obtain ⟨⟨⟨h0, h1⟩, h2⟩, h3⟩ := h
      subst h0
      exact ti_rev (M.glob h1) (M.gd.bl _ (by decide)) ((kE_ok a _ _ _ _ _ M tk h3).1 rfl) (star_cons h2)
    · cases h
end
theorem comp_ok {el : Mi.Ex} {g : Mi.Tg} {it : Mi.It} {cd : Mi.OEx} {own : List Nat} {c : Cc} {X : Cx} {e tg i : Expr} {ifs : List Expr} {scope : Scope} {pos : Pos} {Wx : WX} {t : Bool} (M : Mt T O CA k c X) (tk : Takes X Wx) (h : kE T (.comp el g it cd own) t c (.ListComp e [⟨tg, i, ifs, 0⟩] scope pos) = true) :
    CompOk O CA Wx X tg i e ifs scope (ownN c own) it g cd el := by
  unfold kE at h
  simp only [Bool.and_eq_true] at h
  obtain ⟨⟨⟨⟨⟨⟨h1, h2⟩, h3⟩, h4⟩, h5⟩, h6⟩, h7⟩ := h
  refine ⟨kI_ok it _ _ _ _ _ M tk h1, ?_, fun j hj => ?_, fun s H C cl fp => kG_ok (M.blk s H scope C cl fp) h5, fun s H C cl fp => ?_, fun s H C cl fp => ?_, noSet_ok h2⟩
  · rw [M.N, M.sc]
    exact blkOk_by h3
  · rw [ownN_snd]
    exact List.contains_iff_mem.mp (List.all_eq_true.mp h4 j hj)
  · cases cd with
    | none =>
      cases ifs with
      | nil => exact tc_none
      | cons y ys => cases h7
    | some q =>
      cases ifs with
      | nil => cases h7
      | cons y ys =>
        cases ys with
        | nil => exact tc_some ((kE_ok q _ _ _ _ noW (M.blk s H scope C cl fp) takes0 h7).2 rfl).1
        | cons z zs => cases h7
  · exact (kE_ok el _ _ _ _ noW (M.blk s H scope C cl fp) takes0 h6).1 rfl
end
end So
end S_Check3

section S_Check4
set_option Elab.async false
set_option linter.all false
set_option maxRecDepth 100000
set_option maxHeartbeats 8000000
/-! Check4: what is checked holds: statements. -/
namespace So
open PySem PySem.Spec PyProof.Rows L2
open Mi (W Ob Xn R Orc)
def isFun (c : Cc) : Bool := match c.sc.kind with
  | .function => true
  | _ => false
/-- name = [..] on one line -/
def compSw (c : Cc) (y : Str) (py : Pos) (v : Expr) : Bool := match v with
  | .ListComp _ [⟨_, _, _, 0⟩] scope pos => isFun c && locC c y && (py.line == pos.line) && !(scope.names.any fun (n, k) => n == y && (k == .local || k == .cell))
  | _ => false
def isCompE : Mi.Ex → Bool
  | .comp .. => true
  | .cel (.comp ..) => true
  | _ => false
def parC (c : Cc) (x y : Str) (px py : Pos) (a b : Expr) : Bool := isFun c && locC c x && locC c y && decide (x ≠ y) && (py.line == px.line) && noStar a && noStar b && !([a, b].all (foldedForSure 8)) && !([a, b].all (constantsAlone 8))
mutual
def kS (T : Tb) (wr : List Nat) : Mi.S → Cc → Stmt → Bool
  | .set i e, c, st => (match st with
    | .Assign [.Name y py] v _ => stoC c i y && wr.contains i && kE T e false c v && (noComp v || (compSw c y py v && isCompE e))
    | _ => false)
  | .setC i e, c, st => (match st with
    | .Assign [.Name y py] v _ => stoC c i y && wr.contains i && kE T e false c v && noComp v
    | _ => false)
  | .setT g e, c, st => (match st with
    | .Assign [.Tuple es kk p] v _ => kG c g (.Tuple es kk p) && (tgIx g).all (wr.contains ·) && !isTup v && kE T e false c v
    | _ => false)
  | .par i j a b, c, st => (match st with
    | .Assign [.Tuple [.Name x px, .Name y py] _ _] (.Tuple [ea, eb] _ _) _ => slotC c i x && slotC c j y && decide (i ≠ j) && wr.contains i && wr.contains j && parC c x y px py ea eb && kE T a false c ea && kE T b false c eb
    | _ => false)
  | .setI o i e, c, st => (match st with
    | .Assign [.Subscript eo ei _] v _ => noSlice ei && kE T o false c eo && kE T i false c ei && kE T e false c v
    | _ => false)
  | .ex e, c, st => (match st with
    | .Expr v _ => noComp v && kE T e false c v
    | _ => false)
  | .ret e, c, st => (match st with
    | .Return (some v) _ => kE T e false c v
    | _ => false)
  | .retN, c, st => (match st with
    | .Return none _ => true
    | _ => false)
  | .ife q a b, c, st => (match st with
    | .If t u v _ => kE T q true c t && kSs T wr a c u && kSs T wr b c v
    | _ => false)
  | .for g it b, c, st => (match st with
    | .For tg iter body [] _ => kI T it c tg iter && noSet iter && kG c g tg && (tgIx g).all (wr.contains ·) && kSs T wr b c body
    | _ => false)
  | .while q b, c, st => (match st with
    | .While t body [] _ => kE T q true c t && kSs T wr b c body
    | _ => false)
  | .brk, c, st => (match st with
    | .Break _ => true
    | _ => false)
  | .cnt, c, st => (match st with
    | .Continue _ => true
    | _ => false)
  | .pass, c, st => (match st with
    | .Pass _ => true
    | _ => false)
  | .fail, c, st => true
  | .raise n f e, c, st => (match st with
    | .Raise (some (.Call (.Name y _) [v] [] _)) none _ => decide (T.x.xc y = some (n, f)) && glC c y && noStar v && kE T e false c v
    | _ => false)
  | .tryA wrB b al ms i h, c, st => (match st with
    | .Try body [.ExceptHandler (some (.Name y _)) (some n) (b₀ :: suite) _] [] [] _ => kSs T wrB b c body && wrB.all (wr.contains ·) && slotC c i n && locC c n && wr.contains i && decide (al = T.x.al) && decide (T.x.xm y = some ms) && glC c y && okN y && kHss T.x c i h (b₀ :: suite)
    | _ => false)
def kSs (T : Tb) (wr : List Nat) : Mi.Ss → Cc → List Stmt → Bool
  | .nil, c, sts => sts.isEmpty
  | .cons s ss, c, sts => (match sts with
    | st :: sts => kS T wr s c st && kSs T wr ss c sts
    | [] => false)
end
theorem swaps_tup {es : List Expr} {kk : Nat} {p : Pos} {v : Expr} {n : Nat} {env : PySem.Env} : swapsWithSole [.Tuple es kk p] v n env = pure false := by
  cases v <;> rfl
theorem swaps_sub {a b : Expr} {p : Pos} {v : Expr} {n : Nat} {env : PySem.Env} : swapsWithSole [.Subscript a b p] v n env = pure false := by
  cases v <;> rfl
theorem sws_tup {es : List Expr} {kk : Nat} {p : Pos} {v : Expr} {env : PySem.Env} (h : isTup v = false) : swappedStores [.Tuple es kk p] v env = pure none := by
  cases v <;> first | rfl | cases h
theorem sws_sub {a b : Expr} {p : Pos} {v : Expr} {env : PySem.Env} : swappedStores [.Subscript a b p] v env = pure none := by
  cases v <;> rfl
theorem asg_sub {o i : Expr} {p : Pos} {env : PySem.Env} {v : Value} (h : noSlice i = true) : assign (.Subscript o i p) env v = (do
      let ov ← holding [v] (eval o env)
      let iv ← holding [v, ov] (eval i env)
      standAt p
      holding [v, ov, iv] (setItem ov iv v)
      release [v, ov, iv] []) := by
  cases i <;> first | rfl | cases h
section
variable {T : Tb} {O : Orc} {CA : Nat → Addr} {k : Nat} {c : Cc} {X : Cx}
theorem Mt.fun (M : Mt T O CA k c X) (h : isFun c = true) : X.env.scope.kind = .function := by
  rw [M.sc]
  unfold isFun at h
  split at h
  · assumption
  · cases h
theorem Mt.loc (M : Mt T O CA k c X) {y : Str} (h : locC c y = true) : X.env.scope.names.lookup y = some .local := by
  rw [M.sc]
  unfold locC at h
  split at h
  · assumption
  · cases h
theorem noStar_any {a b : Expr} (ha : noStar a = true) (hb : noStar b = true) : ([a, b].any fun | .Starred .. => true | _ => false) = false := by
  rw [List.any_eq_false]
  intro x hx
  have q : noStar x = true := by
    simp only [List.mem_cons, List.not_mem_nil, or_false] at hx
    rcases hx with e | e <;> (rw [e]; assumption)
  cases x <;> first | (intro z; cases z; done) | cases q
theorem par_sw (M : Mt T O CA k c X) {x y : Str} {px py pt pt2 : Pos} {kt k2 : Nat} {a b : Expr} (h : parC c x y px py a b = true) : swappedStores [.Tuple [.Name x px, .Name y py] kt pt] (.Tuple [a, b] k2 pt2) X.env = pure (some [x, y]) := by
  unfold parC at h
  simp only [Bool.and_eq_true, Bool.not_eq_true', decide_eq_true_eq] at h
  obtain ⟨⟨⟨⟨⟨⟨⟨⟨h1, h2⟩, h3⟩, h4⟩, h5⟩, h6⟩, h7⟩, h8⟩, h9⟩ := h
  have hb : X.env.blockKind = .function := by
    unfold Env.blockKind
    rw [M.fun h1]
    rfl
  have kx : X.env.kindOf x = some .local := M.loc h2
  have ky : X.env.kindOf y = some .local := M.loc h3
  have hn := noStar_any h6 h7
  have hxy : (x == y) = false := by
    rw [beq_eq_false_iff_ne]
    exact h4
  have hyx : (y == x) = false := by
    rw [beq_eq_false_iff_ne]
    exact fun e => h4 e.symm
  unfold swappedStores
  simp only [hb, kx, ky, hn, h8, h9, Expr.pos, h5, List.filterMap_cons, List.filterMap_nil, List.head?_cons, Option.map_some, Option.getD_some, List.length_cons, List.length_nil]
  simp [List.eraseDups_cons, h5, hyx, hxy, h4]
  intro z
  exfalso
  rcases z with z | z
  · cases a <;> first | (cases z; done) | cases h6
  · cases b <;> first | (cases z; done) | cases h7
theorem comp_sw (M : Mt T O CA k c X) {y : Str} {py spos : Pos} {v : Expr} {e : Mi.Ex} {i : Nat} {wr : List Nat} {Wx : WX} (tk : Takes X Wx) (hi : X.N[i]? = some y) (hw : i ∈ wr) (h : compSw c y py v = true) (he : isCompE e = true) (hk : kE T e false c v = true) : PS X (.Assign [.Name y py] v spos) (tS O X.K CA Wx wr (.set i e)) := by
  unfold compSw at h
  split at h
  · rename_i el g2 i2 ifs scope pos
    simp only [Bool.and_eq_true, Bool.not_eq_true'] at h
    obtain ⟨⟨⟨h1, h2⟩, h3⟩, h4⟩ := h
    have hs := sw_true (elt := el) (gs := [⟨g2, i2, ifs, 0⟩]) (l := spos.line) (M.fun h1) (M.loc h2) h3 h4
    have go : ∀ {el' : Mi.Ex} {g : Mi.Tg} {it : Mi.It} {cd : Mi.OEx} {own : List Nat}, kE T (.comp el' g it cd own) false c (.ListComp el [⟨g2, i2, ifs, 0⟩] scope pos) = true → PS X (.Assign [.Name y py] (.ListComp el [⟨g2, i2, ifs, 0⟩] scope pos) spos) (tAsg (tE O X.K CA Wx (.comp el' g it cd own)) (gName i)) := fun {el' g it cd own} hk => by
      have q := comp_ok M tk hk
      refine psImp (ps_setLc M.calm M.nd hi (M.loc h2) hs q.hi q.ok q.hg q.ht q.he q.hs) fun D σ H z => ?_
      rw [ownN_snd]
      have hw := q.hw
      rw [ownN_snd] at hw
      exact comp_val hw z
    unfold isCompE at he
    split at he
    · exact psImp (go hk) fun D σ H z => set_ok hw z
    · have hk' := hk
      unfold kE at hk'
      simp only [Bool.and_eq_true] at hk'
      exact psImp (go hk'.2) fun D σ H z => cel_val (set_ok hw z)
    · cases he
  · cases h
theorem all_mem {wr : List Nat} {is : List Nat} (h : is.all (wr.contains ·) = true) : ∀ i ∈ is, i ∈ wr := fun i hi => List.contains_iff_mem.mp (List.all_eq_true.mp h i hi)
mutual
theorem kS_ok {wr : List Nat} : ∀ (s : Mi.S) (c : Cc) (X : Cx) (st : Stmt) (Wx : WX), Mt T O CA k c X → Takes X Wx → PassesOwn (model X.prog X.w) X.A X.env X.xe → X.stack = X.env :: X.outer → X.env.frame = some X.env.locals → kS T wr s c st = true → PS X st (tS O X.K CA Wx wr s)
  | .set i e, c, X, st, Wx, M, tk, hp, hs, hf, h => by
    unfold kS at h
    split at h
    · simp only [Bool.and_eq_true, Bool.or_eq_true] at h
      obtain ⟨⟨⟨h1, h2⟩, h3⟩, h4⟩ := h
      obtain ⟨g1, g2, g3⟩ := sto_ok M h1
      rcases h4 with h4 | h4
      · exact psImp (ps_set M.nd g1 g2 ((kE_ok e _ _ _ _ _ M tk h3).1 rfl) (noComp_ok h4) g3) fun D σ H z => set_ok (List.contains_iff_mem.mp h2) z
      · exact comp_sw M tk g1 (List.contains_iff_mem.mp h2) h4.1 h4.2 h3
    · cases h
  | .setC i e, c, X, st, Wx, M, tk, hp, hs, hf, h => by
    unfold kS at h
    split at h
    · simp only [Bool.and_eq_true] at h
      obtain ⟨⟨⟨h1, h2⟩, h3⟩, h4⟩ := h
      obtain ⟨g1, g2, g3⟩ := sto_ok M h1
      exact psImp (ps_set M.nd g1 g2 ((kE_ok e _ _ _ _ _ M tk h3).1 rfl) (noComp_ok h4) g3) fun D σ H z => setC_ok (List.contains_iff_mem.mp h2) z
    · cases h
  | .setT g e, c, X, st, Wx, M, tk, hp, hs, hf, h => by
    unfold kS at h
    split at h
    · simp only [Bool.and_eq_true, Bool.not_eq_true'] at h
      obtain ⟨⟨⟨h1, h2⟩, h3⟩, h4⟩ := h
      exact psImp (ps_asg ((kE_ok e _ _ _ _ _ M tk h4).1 rfl) (kG_ok M h1) swaps_tup (sws_tup h3) rfl) fun D σ H z => setT_ok (all_mem h2) z
    · cases h
  | .par i j a b, c, X, st, Wx, M, tk, hp, hs, hf, h => by
    unfold kS at h
    split at h
    · simp only [Bool.and_eq_true, decide_eq_true_eq] at h
      obtain ⟨⟨⟨⟨⟨⟨⟨h1, h2⟩, h3⟩, h4⟩, h5⟩, h6⟩, h7⟩, h8⟩ := h
      have h6' := h6
      unfold parC at h6
      simp only [Bool.and_eq_true, Bool.not_eq_true', decide_eq_true_eq] at h6
      obtain ⟨⟨⟨⟨⟨⟨⟨⟨_, b2⟩, b3⟩, _⟩, _⟩, b6⟩, b7⟩, _⟩, _⟩ := h6
      refine psImp (ps_par M.calm M.nd (M.slot h1) (M.slot h2) h3 (M.loc b2) (M.loc b3) (pa_cons ((kE_ok a _ _ _ _ _ M tk h7).1 rfl) (pa_cons ((kE_ok b _ _ _ _ _ M tk h8).1 rfl) pa_nil (star_cons b7)) (star_cons b6)) (par_sw M h6') swaps_tup) fun D σ H z => ?_
      exact par_ok (List.contains_iff_mem.mp h4) (List.contains_iff_mem.mp h5) (fun σ H Q q => q) z
    · cases h
  | .setI o i e, c, X, st, Wx, M, tk, hp, hs, hf, h => by
    unfold kS at h
    split at h
    · simp only [Bool.and_eq_true] at h
      obtain ⟨⟨⟨h0, h1⟩, h2⟩, h3⟩ := h
      exact psImp (ps_asg ((kE_ok e _ _ _ _ _ M tk h3).1 rfl) (pg_sub ((kE_ok o _ _ _ _ _ M tk h1).1 rfl) ((kE_ok i _ _ _ _ _ M tk h2).1 rfl) set_idx (fun _ => asg_sub h0)) swaps_sub sws_sub rfl) fun D σ H z => setI_ok z
    · cases h
  | .ex e, c, X, st, Wx, M, tk, hp, hs, hf, h => by
    unfold kS at h
    split at h
    · simp only [Bool.and_eq_true] at h
      exact psImp (ps_expr ((kE_ok e _ _ _ _ _ M tk h.2).1 rfl) (noComp_ok h.1)) fun D σ H z => ex_ok z
    · cases h
  | .ret e, c, X, st, Wx, M, tk, hp, hs, hf, h => by
    unfold kS at h
    split at h
    · exact psImp (ps_ret ((kE_ok e _ _ _ _ _ M tk h).1 rfl)) fun D σ H z => ret_ok z
    · cases h
  | .retN, c, X, st, Wx, M, tk, hp, hs, hf, h => by
    unfold kS at h
    split at h
    · exact psImp ps_retN fun D σ H z => retN_ok z
    · cases h
  | .ife q a b, c, X, st, Wx, M, tk, hp, hs, hf, h => by
    unfold kS at h
    split at h
    · simp only [Bool.and_eq_true] at h
      exact psImp (ps_if ((kE_ok q _ _ _ _ _ M tk h.1.1).2 rfl).1 (kSs_ok a _ _ _ _ M tk hp hs hf h.1.2) (kSs_ok b _ _ _ _ M tk hp hs hf h.2)) fun D σ H z => if_ok z
    · cases h
  | .for g it b, c, X, st, Wx, M, tk, hp, hs, hf, h => by
    unfold kS at h
    split at h
    · simp only [Bool.and_eq_true] at h
      obtain ⟨⟨⟨⟨h1, h2⟩, h3⟩, h4⟩, h5⟩ := h
      exact psImp (ps_for hp M.calm (kI_ok it _ _ _ _ _ M tk h1) (kG_ok M h3) (kSs_ok b _ _ _ _ M tk hp hs hf h5) (noSet_ok h2)) fun D σ H z => for_ok (all_mem h4) z
    · cases h
  | .while q b, c, X, st, Wx, M, tk, hp, hs, hf, h => by
    unfold kS at h
    split at h
    · simp only [Bool.and_eq_true] at h
      exact psImp (ps_while hp ((kE_ok q _ _ _ _ _ M tk h.1).2 rfl).1 (kSs_ok b _ _ _ _ M tk hp hs hf h.2)) fun D σ H z => while_ok z
    · cases h
  | .brk, c, X, st, Wx, M, tk, hp, hs, hf, h => by
    unfold kS at h
    split at h
    · exact psImp ps_break fun D σ H z => brk_ok z
    · cases h
  | .cnt, c, X, st, Wx, M, tk, hp, hs, hf, h => by
    unfold kS at h
    split at h
    · exact psImp ps_continue fun D σ H z => cnt_ok z
    · cases h
  | .pass, c, X, st, Wx, M, tk, hp, hs, hf, h => by
    unfold kS at h
    split at h
    · exact psImp ps_pass fun D σ H z => pass_ok z
    · cases h
  | .fail, c, X, st, Wx, M, tk, hp, hs, hf, h => psImp ps_never fun D σ H z => fail_ok z
  | .raise n f e, c, X, st, Wx, M, tk, hp, hs, hf, h => by
    unfold kS at h
    split at h
    · simp only [Bool.and_eq_true, decide_eq_true_eq] at h
      obtain ⟨⟨⟨h1, h2⟩, h3⟩, h4⟩ := h
      obtain ⟨F, hdb⟩ := M.gd.gx.xr _ _ _ h1
      obtain ⟨j, rfl⟩ : ∃ j, k = j + 2 := ⟨k - 2, by have := M.k2; omega⟩
      exact ps_raiseC M.calm tk F M.room (M.glob h2) ((kE_ok e _ _ _ _ _ M tk h4).1 rfl) h3 hdb
    · cases h
  | .tryA wrB b al ms i h', c, X, st, Wx, M, tk, hp, hs, hf, h => by
    unfold kS at h
    split at h
    · simp only [Bool.and_eq_true, decide_eq_true_eq] at h
      obtain ⟨⟨⟨⟨⟨⟨⟨⟨⟨h1, h2⟩, h3⟩, h4⟩, h5⟩, rfl⟩, h7⟩, h8⟩, h9⟩, h10⟩ := h
      obtain ⟨D, g1, g2⟩ := M.gd.gx.xm _ _ h7
      refine psImp (L2.ps_try_as (tb := fun W => tSs O X.K CA W wrB b) (ts := tsH X.K CA T.x.al i h') hs hf M.nd (M.slot h3) (M.loc h4) (c := .ref D) ⟨M.glob h8, (okN_ok h9).1, .inl g1⟩ tk (fun W pn xe tk2 hp2 => ?_) (fun a oe cls d pn hz hf2 => suite_ok M h10 a oe cls d pn hz hf2)) fun D' σ H z => ?_
      · exact kSs_ok b _ (X.tr pn xe) _ W (M.tr pn xe) tk2 hp2 hs hf h1
      · exact try_ok (List.contains_iff_mem.mp h5) (all_mem h2) (fun n hn => (g2 n (List.contains_iff_mem.mp hn)).1) z
    · cases h
theorem kSs_ok {wr : List Nat} : ∀ (s : Mi.Ss) (c : Cc) (X : Cx) (st : List Stmt) (Wx : WX), Mt T O CA k c X → Takes X Wx → PassesOwn (model X.prog X.w) X.A X.env X.xe → X.stack = X.env :: X.outer → X.env.frame = some X.env.locals → kSs T wr s c st = true → PSs X st (tSs O X.K CA Wx wr s)
  | .nil, c, X, st, Wx, M, tk, hp, hs, hf, h => by
    cases st with
    | nil => exact pssImp pss_nil fun D σ H z => nil_ok z
    | cons e es => cases h
  | .cons s ss, c, X, st, Wx, M, tk, hp, hs, hf, h => by
    unfold kSs at h
    split at h
    · simp only [Bool.and_eq_true] at h
      exact pssImp (pss_cons (kS_ok s _ _ _ _ M tk hp hs hf h.1) (kSs_ok ss _ _ _ _ M tk hp hs hf h.2)) fun D σ H z => cons_ok z
    · cases h
end
end
end So
end S_Check4

section S_Defs
set_option Elab.async false
set_option linter.all false
set_option maxRecDepth 100000
set_option maxHeartbeats 8000000
/-! Defs: a def keeps its promise; the defs together. -/
namespace So
open PySem PySem.Spec PyProof.Rows L2
open Mi (W Ob Xn R Orc)
section
variable {K : PySem.W.Frag} {CA : Nat → Addr} {H : Hp} {m f : List Addr}
theorem envR_pad {ws : List W} {vs : List V} (r : Reps K H m f ws vs) (n : Nat) : EnvR K H m f (ws.map some ++ List.replicate n none) (vs.map some ++ List.replicate n none) := by
  have hl := r.length
  refine ⟨by simp [hl], fun i w h => ?_⟩
  by_cases hi : i < ws.length
  · rw [List.getElem?_append_left (by simpa using hi), List.getElem?_map] at h
    cases e : ws[i]? with
    | none =>
      rw [e] at h
      cases h
    | some u =>
      rw [e] at h
      cases h
      obtain ⟨v, h1, h2⟩ := r.get e
      exact ⟨v, by rw [List.getElem?_append_left (by simpa [← hl] using hi), List.getElem?_map, h1]; rfl, h2⟩
  · rw [List.getElem?_append_right (by simpa using hi), List.getElem?_replicate] at h
    split at h <;> cases h
theorem run_len {O : Orc} {d : Mi.Def} {ws : List W} {cs : List Ob} {z : Xn → List Ob → Prop} {q : W → List Ob → Prop} (h : Rw z (d.run O ws cs) q) : ws.length = d.pars := by
  unfold Mi.Def.run at h
  split at h
  · assumption
  · exact h.elim
end
/-- a def of the text: its name, its statement, its slots, its parameters, its tree -/
structure Dt where
  name : Str
  st : Stmt
  N : List Str
  ps : List Str
  d : Mi.Def
def Dt.cc (t : Dt) : Cc := ⟨t.N, defScope t.st, fun _ => true⟩
def Dt.ok (T : Tb) (t : Dt) : Bool := decide (t.d.slots = t.N.length) && decide (t.d.pars = t.ps.length) && kSs T (List.range t.N.length) t.d.body t.cc (defBody t.st)
/-- it stands at f -/
abbrev FunT (K : PySem.W.Frag) (t : Dt) (f : Addr) (fd : FuncData) : Prop := FunD K t.name t.name (defArgs t.st) (defBody t.st) (defScope t.st) [] [] f fd
section
variable {T : Tb} {O : Orc} {P : Program} {w : World} {K : PySem.W.Frag} {mg : Str → Option Value} {base : Heap} {CA : Nat → Addr} {k : Nat}
theorem def_ok {t : Dt} {f : Addr} {fd : FuncData} (k2 : 2 ≤ k) (F : FunT K t f fd) (S : FnScope t.N t.ps (defScope t.st)) (gd : Gd T O CA P w K mg base k) (ck : t.ok T = true) : FnOk P w K mg base (L2.CX P w) (k + 1) f fd t.ps (spF K CA fun ws cs => t.d.run O ws cs) := by
  unfold Dt.ok at ck
  simp only [Bool.and_eq_true, decide_eq_true_eq] at ck
  obtain ⟨⟨c1, c2⟩, c3⟩ := ck
  refine FunD.ok F S (fun vs H Q E h => ?_) (fun cdv A outer s H vs Q E hr h => ?_)
  · obtain ⟨ws, cs, m, f, rs, c, h⟩ := h
    rw [← rs.length, ← c2]
    exact run_len h
  · refine ⟨tSs O K CA (fun cls d _ H => E cls d H) (List.range t.N.length) t.d.body, kSs_ok t.d.body t.cc _ (defBody t.st) _ ⟨gd, hr, k2, rfl, S.nd, rfl, rfl, rfl⟩ (takes_of rfl rfl rfl rfl) (passes_of rfl) rfl rfl c3, ?_⟩
    obtain ⟨ws, cs, m, f, rs, c, h⟩ := h
    have hl : ws.length = t.d.pars := run_len h
    unfold Mi.Def.run at h
    simp only [if_pos hl] at h
    refine ⟨H, m, f, L2.start t.N vs, Mi.entry t.d ws, cs, m, Keep.refl, Agree.refl, ?_, c, ?_⟩
    · unfold Mi.entry L2.start
      rw [c1, rs.length]
      exact envR_pad rs _
    · refine h.bind.imp (fun x cs1 z cls d H' m' σ' k' c' xr _ => z cls d H' m' k' c' xr) fun fl cs1 z => ?_
      cases fl with
      | nx ρ => exact fun H' m' σ' k' _ _ c' => z .non H' m' k' (.old .non c')
      | ret w => exact z
      | bk ρ => exact False.elim z
      | ct ρ => exact False.elim z
/-- what the top has written -/
structure Wd (T : Tb) (defs : List Dt) (g : Str → Option W) (CA : Nat → Addr) (P : Program) (w : World) (K : PySem.W.Frag) (mg : Str → Option Value) : Prop where
  gl : ∀ x, T.gl x = true → ∃ (a : W) (v : V) (u : Value), g x = some a ∧ mg x = some u ∧ RelV v u ∧ ∀ H m f, Rep K H m f a v
  bl : ∀ x ∈ bltNs, mg x = none
  fn : ∀ x n, T.df x = some n → ∃ (t : Dt) (fa : Addr) (fd : FuncData), defs[n]? = some t ∧ t.name = x ∧ mg x = some (.ref fa) ∧ FunT K t fa fd ∧ Binds K fd t.ps [] ∧
    ∀ ks pm, T.kw x ks pm = true → KPer K fd t.ps ks pm
  gx : Gx T.x CA P K mg
/-- the texts are the trees -/
structure Tx (T : Tb) (defs : List Dt) : Prop where
  sc : ∀ t ∈ defs, FnScope t.N t.ps (defScope t.st)
  ck : ∀ t ∈ defs, t.ok T = true
theorem fn_none {k : Nat} {fa : Addr} {fd : FuncData} {ps : List Str} {sp : Sp} (h : ∀ vs H Q E, ¬ sp vs H Q E) : FnOk P w K mg base (L2.CX P w) k fa fd ps sp := ⟨fun vs H Q E q => (h _ _ _ _ q).elim, fun A outer s H args us vs Q E _ _ _ _ q => (h _ _ _ _ q).elim⟩
theorem knot {defs : List Dt} {g : Str → Option W} (fuel : Nat) (wd : Wd T defs g CA P w K mg) (tx : Tx T defs) : ∀ k : Nat, Gd T ⟨Mi.calls (defs.map (·.d)) g fuel k, g, fuel⟩ CA P w K mg base (k + 2)
  | 0 => by
    refine ⟨wd.gl, fun x n e => ?_, wd.bl, wd.gx⟩
    obtain ⟨t, fa, fd, h1, h2, h3, h4, h5, h6⟩ := wd.fn x n e
    exact ⟨fa, fd, t.ps, h3, h4.kp, fn_none fun vs H Q E q => by
      obtain ⟨ws, cs, m, f, rs, c, h⟩ := q
      exact h, h5, h6⟩
  | k + 1 => by
    have ih := knot fuel wd tx k
    refine ⟨wd.gl, fun x n e => ?_, wd.bl, wd.gx⟩
    obtain ⟨t, fa, fd, h1, h2, h3, h4, h5, h6⟩ := wd.fn x n e
    have hm : t ∈ defs := List.mem_of_getElem? h1
    have q := def_ok (by omega) h4 (tx.sc t hm) ih (tx.ck t hm)
    have e2 : (fun ws cs => t.d.run ⟨Mi.calls (defs.map (·.d)) g fuel k, g, fuel⟩ ws cs) = Mi.calls (defs.map (·.d)) g fuel (k + 1) n := by
      funext ws cs
      rw [Mi.calls]
      rw [List.getElem?_map, h1]
      rfl
    rw [e2] at q
    exact ⟨fa, fd, t.ps, h3, h4.kp, q, h5, h6⟩
end
end So
end S_Defs

section S_Heads
set_option Elab.async false
set_option linter.all false
set_option maxRecDepth 100000
set_option maxHeartbeats 8000000
/-! Heads: what the top has written, from the head's facts; the end. -/
namespace So
open PySem PySem.Spec PyProof.Rows L2
open Mi (W Ob Xn R Orc)
def ddOf (t : Dt) : He.DefD := ⟨(t.name, none), t.name, t.name, defArgs t.st, defBody t.st, defScope t.st, [], []⟩
def faOf (defs : List Dt) (consts : List (Str × Int)) : List He.Fa := defs.map (fun t => He.Fa.glo t.name) ++ (bltNs.map He.Fa.free ++ consts.map fun c => He.Fa.int c.1 c.2)
/-- the __init__ of a class statement -/
def initOf (s : Stmt) : Stmt := match s with
  | .ClassDef _ _ _ body _ _ _ _ _ _ _ => (body.find? fun s => match s with
    | .FunctionDef .. => true
    | _ => false).getD s
  | s => s
/-- an error class that is raised: its name, its field, its __init__ -/
structure Ec where
  x : Str
  fld : Str
  st : Stmt
/-- all that the top tells beside its defs: raised classes, named classes with the numbers of their raised subclasses -/
structure Cls where
  ec : List Ec := []
  nm : List (Str × List Nat) := []
def Cls.xt (c : Cls) : Xt := ⟨fun y => (c.ec.findIdx? fun e => e.x == y).bind fun n => (c.ec[n]?).map fun e => (n, e.fld), fun y => c.nm.lookup y, List.range c.ec.length, c.ec.map (·.fld)⟩
def tbOf (defs : List Dt) (consts : List (Str × Int)) (kw : Str → List Str → List Nat → Bool) (cl : Cls := {}) : Tb := ⟨fun x => (consts.lookup x).isSome, fun x => defs.findIdx? fun t => t.name == x, kw, cl.xt⟩
def gOf (consts : List (Str × Int)) (x : Str) : Option W := (consts.lookup x).map W.int
/-- how a def's arguments bind -/
def Bd (t : Dt) : Prop := ∀ (kV doc pm : Value) (an : Option Addr) (cdv ct : Value) (us : List Value), us.length = t.ps.length → bindArgs (PySem.W.fnOf t.name t.name (defArgs t.st) (defBody t.st) (defScope t.st) .none kV doc pm an cdv ct) ⟨us, []⟩ = pure (t.ps.zip us)
/-- .. by keywords -/
def BdK (t : Dt) (ks : List Str) (pm : List Nat) : Prop := ∀ (kV doc pmv : Value) (an : Option Addr) (cdv ct : Value) (ws : List Value), (Mi.permute ws pm).length = t.ps.length → bindArgs (PySem.W.fnOf t.name t.name (defArgs t.st) (defBody t.st) (defScope t.st) .none kV doc pmv an cdv ct) ⟨[], ks.zip ws⟩ = pure (t.ps.zip (Mi.permute ws pm))
theorem kper_of {K : PySem.W.Frag} {t : Dt} {f : Addr} {fd : FuncData} {ks : List Str} {pm : List Nat} (F : FunT K t f fd) (h : BdK t ks pm) : KPer K fd t.ps ks pm := by
  obtain ⟨oc, od, dV, kV, doc, pmv, an, cdv, ct, osl, rfl, lk, hcd, hD, hK⟩ := F.ex
  rcases hD with ⟨_, rfl⟩ | ⟨e, _⟩
  · exact fun s ws _ hl => .of_eq (h kV doc pmv an cdv ct ws hl)
  · exact absurd rfl e
theorem lookup_mem {α : Type} : ∀ {l : List (Str × α)} {x : Str} {v : α}, l.lookup x = some v → (x, v) ∈ l
  | (y, u) :: l, x, v, h => by
    rw [List.lookup_cons] at h
    cases e : x == y with
    | true =>
      rw [e] at h
      cases h
      rw [eq_of_beq e]
      exact List.mem_cons_self
    | false =>
      rw [e] at h
      exact List.mem_cons_of_mem _ (lookup_mem h)
/-! ### the error classes -/
open PySem.W in
def oexB (K : PySem.W.Frag) (C : Addr) : Bool := match K.lookup C with
  | some ⟨.type "type", _, .cls cd, sl⟩ => (match cd.mro, sl.toList with
    | .ref C' :: bm, [_, _, _, _, some (.builtin n), _] => C' == C && n == "ValueError.__new__" && !cd.hasDel && cd.hasDict && PySem.HandSPX.refsVE bm
    | _, _ => false)
  | _ => false
theorem oexB_ok {K : PySem.W.Frag} {C : Addr} (h : oexB K C = true) : ∃ nm q N bs bm sn sub ab col dd k0 k1 k2 k3 k5, K.lookup C = some (excClassObj nm q C N bs bm true sn sub ab col dd k0 k1 k2 k3 k5 "ValueError.__new__") ∧ PySem.HandSPX.refsVE bm = true := by
  unfold oexB at h
  split at h
  · rename_i dd cd sl ho
    split at h
    · rename_i C' bm k0 k1 k2 k3 n k5 hm hs
      simp only [Bool.and_eq_true, beq_iff_eq, Bool.not_eq_true'] at h
      obtain ⟨⟨⟨⟨rfl, rfl⟩, hdel⟩, hdct⟩, ht⟩ := h
      obtain ⟨nm, bs, mro, ns, qn, hd, sn, sub, ab, col, dl⟩ := cd
      dsimp only at hm hdel hdct
      subst hm hdel hdct
      have hsl : sl = #[k0, k1, k2, k3, some (.builtin "ValueError.__new__"), k5] := by
        obtain ⟨l⟩ := sl
        simp only at hs
        rw [hs]
      subst hsl
      exact ⟨nm, qn, ns, bs, bm, sn, sub, ab, col, dd, k0, k1, k2, k3, k5, ho, ht⟩
    · cases h
  · cases h
/-- the address of the class's __init__ -/
abbrev iA (K : PySem.W.Frag) (x : Str) : Addr := He.ma K (He.ga K x) "__init__"
def eqT (a b : Option Value) : Bool := decide (a = b)
/-- what is asked of a raised class -/
def ecB (K : PySem.W.Frag) (file : Str) (fl : List Str) (x : Str) : Bool :=
  He.eqO (PySem.W.nsIn K mainGlobals x) (some (some (.ref (He.ga K x)))) && oexB K (He.ga K x) && He.eqO (PySem.W.findIn K (.ref (He.ga K x)) "__setattr__") (some (some (.builtin "object.__setattr__"))) && decide (PySem.W.subIn K (.ref (He.ga K x)) (.type "BaseException") = some true)
  && eqT (PySem.W.typeIn K (.ref (He.ga K x))) (some (.type "type")) && PySem.W.keepIn K (.ref (He.ga K x)) && He.eqO (PySem.W.findIn K (.ref (He.ga K x)) "__init__") (some (some (.ref (iA K x)))) && eqT (PySem.W.typeIn K (.ref (iA K x))) (some (.type "function"))
  && (fl.all fun f => He.eqO (PySem.W.findIn K (.ref (He.ga K x)) f) (some none)) && decide (PySem.W.mroIn K (He.ga K x) (.ref (He.ga K x)) = some true) && He.eqO (PySem.W.ks_superIn K (He.ga K x) (He.ga K x) "__init__") (some (some (.builtin "ValueError.__init__")))
  && decide (PySem.W.subIn K (.ref (He.ga K x)) (.type "ValueError") = some true) && He.eqO (PySem.W.findIn K (.ref (He.ga K x)) "__getattribute__") (some (some (.builtin "BaseException.__getattribute__"))) && He.eqO (PySem.W.findIn K (.ref (He.ga K x)) "__getattr__") (some none)
  && PySem.W.hasDictIn K (He.ga K x) && He.eqO (PySem.W.findIn K (.ref (He.ga K x)) "__class__") (some (some (.builtin "object.__class__"))) && He.eqO (PySem.W.specialIn K (.builtin "object.__class__") "__get__") (some (some (.builtin "getset_descriptor.__get__")))
  && decide (PySem.W.takesIn K (.builtin "object.__class__") = some true) && decide (PySem.W.mroIn K (He.ga K x) (.type "object") = some true) && decide (PySem.W.kitOne K (.ref (He.ga K x)) (.type "ValueError") = some true)
/-- what is asked of its __init__ -/
def icB (K : PySem.W.Frag) (file : Str) (x : Str) : Bool := match K.lookup (iA K x) with
  | some ⟨_, _, .func fd, _⟩ => fd.globals == mainGlobals && fd.builtins == builtinsNs && (match fd.defaults with | .none => true | _ => false) && (match fd.closure, fd.code with
    | [(n, cc)], .ref cda => n == ("__class__" : Str) && (match K.lookup cc with
      | some ⟨_, _, .cell (some (.ref D)), _⟩ => D == He.ga K x
      | _ => false) && PySem.W.codeIn K (.ref cda) fd.qualname && (match K.lookup cda with
      | some ⟨_, _, .fields vs, _⟩ => (match vs.toList with
        | _ :: _ :: .str g _ :: _ => file == g
        | _ => false)
      | _ => false)
    | _, _ => false)
  | _ => false
abbrev InW : Type := Option (Arguments × FuncBody × Scope)
def inW (K : PySem.W.Frag) (x : Str) : InW := match K.lookup (iA K x) with
  | some ⟨_, _, .func fd, _⟩ => some (fd.params, fd.body, fd.scope)
  | _ => none
def Ec.val (e : Ec) : InW := some (defArgs e.st, .stmts (defBody e.st), defScope e.st)
/-- a named class against the raised ones -/
def nmB (K : PySem.W.Frag) (ec : List Ec) (y : Str) (ms : List Nat) : Bool := He.eqO (PySem.W.nsIn K mainGlobals y) (some (some (.ref (He.ga K y)))) && (List.range ec.length).all fun n => match ec[n]? with
  | some e => decide (PySem.W.exmOne K (.ref (He.ga K e.x)) (.ref (He.ga K y)) = some (ms.contains n)) && decide (PySem.W.kitOne K (.ref (He.ga K e.x)) (.ref (He.ga K y)) = some (ms.contains n))
  | none => false
def clB (file : Str) (c : Cls) (K : PySem.W.Frag) : Bool := (c.ec.all fun e => ecB K file (c.ec.map (·.fld)) e.x && icB K file e.x) && (c.nm.all fun p => nmB K c.ec p.1 p.2) &&
  (c.ec.isEmpty || (He.eqO (PySem.W.nsIn K cStatics "thirdparty.any") (some none) && He.eqO (PySem.W.nsIn K mainGlobals "super") (some none) && He.eqO (PySem.W.nsIn K mainGlobals "ValueError") (some none)))
/-- the __init__ is as it must be: its two statements, its scope (by the text alone) -/
structure Ic (e : Ec) : Prop where
  ok : ∃ sn vn, NdefX.NScope [sn, vn, "__class__"] [sn, vn] ["__class__"] (defScope e.st) ∧ (defScope e.st).names.lookup ("super" : Str) = some .globalImplicit ∧ (∃ ar, ((defArgs e.st).posonlyargs ++ (defArgs e.st).args).head? = some ar ∧ ar.arg = sn) ∧
    (sn == ("__debug__" : Str)) = false ∧ (sn == ("__classdict__" : Str)) = false ∧ (vn == ("__debug__" : Str)) = false ∧ (vn == ("__classdict__" : Str)) = false ∧
    (∃ p0 p1 p2 msg j p3 p4 p5 p6 p7 p8 p9, (p2.endLine == p4.line) = true ∧ defBody e.st = [.Expr (.Call (.Attribute (.Call (.Name "super" p0) [] [] p1) "__init__" p2) [.Constant (.str msg) j p3] [] p4) p5, .Assign [.Attribute (.Name sn p6) e.fld p7] (.Name vn p8) p9]) ∧
    ∀ (name qual : Str) (cl : List (Str × Addr)) (kV doc pm : Value) (an : Option Addr) (cdv ct : Value) (us : List Value), us.length = 2 → bindArgs (PySem.W.fnX name qual (defArgs e.st) (defBody e.st) (defScope e.st) cl .none kV doc pm an cdv ct) ⟨us, []⟩ = pure ([sn, vn].zip us)
section
variable {P : Program} {K : PySem.W.Frag} {h : Heap} {mg : Str → Option Value} {fl : List Str} {ec : List Ec}
theorem icB_ok {file x : Str} (h : icB K file x = true) : ∃ fd cc cda, (∃ oc od osl, K.lookup (iA K x) = some ⟨oc, od, .func fd, osl⟩) ∧ fd.defaults = .none ∧ fd.globals = mainGlobals ∧ fd.builtins = builtinsNs ∧ fd.closure = [(("__class__" : Str), cc)] ∧ fd.code = .ref cda ∧ PySem.W.codeIn K (.ref cda) fd.qualname = true ∧
    (∃ ccl cdd vs ccs g tf, K.lookup cda = some ⟨ccl, cdd, .fields vs, ccs⟩ ∧ vs[2]? = some (.str g tf) ∧ (file == g) = true) ∧ ∃ cl cld csl, K.lookup cc = some ⟨cl, cld, .cell (some (.ref (He.ga K x))), csl⟩ := by
  unfold icB at h
  split at h
  · rename_i oc od fd osl ho
    rw [Bool.and_eq_true, Bool.and_eq_true, Bool.and_eq_true] at h
    obtain ⟨⟨⟨h1, h2⟩, h0⟩, h3⟩ := h
    have hdf : fd.defaults = .none := by
      split at h0
      · assumption
      · cases h0
    split at h3
    · rename_i n cc cda hcl hcd
      simp only [Bool.and_eq_true, beq_iff_eq] at h3
      obtain ⟨⟨⟨rfl, h5⟩, h6⟩, h7⟩ := h3
      refine ⟨fd, cc, cda, ⟨oc, od, osl, ho⟩, hdf, eq_of_beq h1, eq_of_beq h2, hcl, hcd, h6, ?_, ?_⟩
      · split at h7
        · rename_i a b vs d e
          split at h7
          · rename_i q1 q2 g t r hv
            exact ⟨_, _, vs, _, g, t, e, by rw [← Array.getElem?_toList, hv] <;> rfl, h7⟩
          · cases h7
        · cases h7
      · split at h5
        · rename_i a b D d e
          obtain rfl := eq_of_beq h5
          exact ⟨_, _, _, e⟩
        · cases h5
    · cases h3
  · cases h
theorem ecB_ok {file x fld : Str} (X : K.In h) (G : h.Ns mainGlobals mg) (hb : ecB K file fl x = true) (hf : fld ∈ fl) (st : PySem.W.nsIn K cStatics "thirdparty.any" = some none) (sup : PySem.W.nsIn K mainGlobals "super" = some none) (htop : (P.main.scope.names.lookup ("super" : Str)).isSome = false) :
    Ive P K (He.ga K x) (iA K x) fld ∧ mg x = some (.ref (He.ga K x)) ∧ ExcC K (He.ga K x) ∧ XfC K (He.ga K x) ∧ (∀ f ∈ fl, PySem.W.findIn K (.ref (He.ga K x)) f = some none) ∧ PySem.W.kitOne K (.ref (He.ga K x)) (.type "ValueError") = some true := by
  unfold ecB at hb
  simp only [Bool.and_eq_true, decide_eq_true_eq, List.all_eq_true] at hb
  obtain ⟨⟨⟨⟨⟨⟨⟨⟨⟨⟨⟨⟨⟨⟨⟨⟨⟨⟨⟨b1, b2⟩, b3⟩, b4⟩, b5⟩, b6⟩, b7⟩, b8⟩, b9⟩, b10⟩, b11⟩, b12⟩, b13⟩, b14⟩, b15⟩, b16⟩, b17⟩, b18⟩, b19⟩, b20⟩ := hb
  have nf : ∀ f ∈ fl, PySem.W.findIn K (.ref (He.ga K x)) f = some none := fun f hf => He.eqO_ok (b9 f hf)
  refine ⟨⟨⟨oexB_ok b2, He.eqO_ok b3, b4, of_decide_eq_true b5, b6⟩, He.eqO_ok b7, of_decide_eq_true b8, nf _ hf, b10, He.eqO_ok b11, b12, st, sup, htop⟩, PySem.W.mg_of X G (He.eqO_ok b1), ⟨He.eqO_ok b13, He.eqO_ok b14, b4, b15, He.eqO_ok b16, He.eqO_ok b17, b18, b19⟩, ⟨He.eqO_ok b13, He.eqO_ok b14, b4, b15⟩, nf, b20⟩
theorem xc_of {e : Ec} {Z : Prop} (vf : Ive P K (He.ga K e.x) (iA K e.x) e.fld ∧ mg e.x = some (.ref (He.ga K e.x)) ∧ Z) (hb : icB K P.main.file e.x = true) (hv : inW K e.x = e.val) (hi : Ic e) : Xc P K mg (He.ga K e.x) e.x e.fld := by
  obtain ⟨fd, cc, cda, ⟨oc, od, osl, lk⟩, h0, h1, h2, h3, h4, h5, h6, h7⟩ := icB_ok hb
  have hw : (some (fd.params, fd.body, fd.scope) : InW) = some (defArgs e.st, .stmts (defBody e.st), defScope e.st) := by
    unfold inW at hv
    rw [lk] at hv
    exact hv
  simp only [Option.some.injEq, Prod.mk.injEq] at hw
  obtain ⟨k1, k2, k3⟩ := hw
  obtain ⟨n1, n2, n3, n4, n5, n6, n7, n8, n9, n10, n11, n12, n13, n14, n15⟩ := fd
  dsimp only at h0 h1 h2 h3 h4 h5 k1 k2 k3
  subst h0 h1 h2 h3 h4 k1 k2 k3
  obtain ⟨sn, vn, S, q1, q2, q3, q4, q5, q6, q7, q8⟩ := hi.ok
  exact ⟨vf.2.1, iA K e.x, cc, cda, _, n1, n2, _, _, _, vf.1, ⟨sn, vn, ⟨_, _, _, _, _, _, rfl⟩, ⟨_, _, _, lk⟩, h5, h6, h7, ⟨S, q1, q2, q3, q4, q5, q6, q7⟩⟩, Binds.all fun us hl => q8 _ _ _ _ _ _ _ _ _ _ hl⟩
/-- the numbers' addresses -/
def caOf (K : PySem.W.Frag) (c : Cls) (n : Nat) : Addr := match c.ec[n]? with
  | some e => He.ga K e.x
  | none => 0
theorem gx_of {c : Cls} (X : K.In h) (G : h.Ns mainGlobals mg) (hb : clB P.main.file c K = true) (hv : ∀ e ∈ c.ec, inW K e.x = e.val) (hi : ∀ e ∈ c.ec, Ic e) (hdb : ∀ e ∈ c.ec, (e.x == ("__debug__" : Str)) = false) (htop : (P.main.scope.names.lookup ("super" : Str)).isSome = false) (hin : mg "isinstance" = none) :
    Gx c.xt (caOf K c) P K mg := by
  unfold clB at hb
  rw [Bool.and_eq_true, Bool.and_eq_true] at hb
  obtain ⟨⟨h1, h2⟩, h3⟩ := hb
  have each : ∀ e ∈ c.ec, ecB K P.main.file (c.ec.map (·.fld)) e.x = true ∧ icB K P.main.file e.x = true := fun e he => Bool.and_eq_true_iff.mp (List.all_eq_true.mp h1 e he)
  have stat : c.ec ≠ [] → PySem.W.nsIn K cStatics "thirdparty.any" = some none ∧ PySem.W.nsIn K mainGlobals "super" = some none ∧ PySem.W.nsIn K mainGlobals "ValueError" = some none := fun hn => by
    rw [Bool.or_eq_true] at h3
    rcases h3 with h3 | h3
    · exact absurd (List.isEmpty_iff.mp h3) hn
    · rw [Bool.and_eq_true, Bool.and_eq_true] at h3
      exact ⟨He.eqO_ok h3.1.1, He.eqO_ok h3.1.2, He.eqO_ok h3.2⟩
  have ok : ∀ e ∈ c.ec, _ := fun e he => ecB_ok (P := P) X G (each e he).1 (List.mem_map_of_mem he) (stat fun z => by rw [z] at he; cases he).1 (stat fun z => by rw [z] at he; cases he).2.1 htop
  have at_ : ∀ n ∈ c.xt.al, ∃ e, c.ec[n]? = some e ∧ e ∈ c.ec ∧ caOf K c n = He.ga K e.x := fun n hn => by
    have hl : n < c.ec.length := List.mem_range.mp hn
    refine ⟨c.ec[n], List.getElem?_eq_getElem hl, List.getElem_mem hl, ?_⟩
    unfold caOf
    rw [List.getElem?_eq_getElem hl]
  have ne : c.xt.al ≠ [] → c.ec ≠ [] := fun z e => z (by show List.range c.ec.length = []; rw [e]; rfl)
  refine ⟨fun y n f hy => ?_, fun n hn => ?_, fun n hn f hf => ?_, fun y ms hy => ?_, fun n hn => ?_, fun z => ?_, fun _ => hin⟩
  · obtain ⟨n', e1, e2⟩ := Option.bind_eq_some_iff.mp (show (c.ec.findIdx? fun e => e.x == y).bind _ = some (n, f) from hy)
    obtain ⟨e, e3, e4⟩ := Option.map_eq_some_iff.mp e2
    cases e4
    obtain ⟨hl, hp, _⟩ := List.findIdx?_eq_some_iff_getElem.mp e1
    rw [List.getElem?_eq_getElem hl] at e3
    cases e3
    have he : c.ec[n] ∈ c.ec := List.getElem_mem hl
    have ey : c.ec[n].x = y := eq_of_beq hp
    obtain ⟨e', e5, he', ec⟩ := at_ n (List.mem_range.mpr hl)
    rw [List.getElem?_eq_getElem hl] at e5
    cases e5
    refine ⟨?_, ey ▸ hdb _ he⟩
    rw [ec, ← ey]
    exact xc_of (ok _ he) (each _ he).2 (hv _ he) (hi _ he)
  · obtain ⟨e, _, he, ec⟩ := at_ n hn
    rw [ec]
    exact ⟨(ok e he).2.2.1, (ok e he).2.2.2.1⟩
  · obtain ⟨e, _, he, ec⟩ := at_ n hn
    rw [ec]
    exact (ok e he).2.2.2.2.1 f hf
  · have hm := lookup_mem (show c.nm.lookup y = some ms from hy)
    have q := List.all_eq_true.mp h2 _ hm
    unfold nmB at q
    rw [Bool.and_eq_true] at q
    refine ⟨He.ga K y, PySem.W.mg_of X G (He.eqO_ok q.1), fun n hn => ?_⟩
    obtain ⟨e, e1, he, ec⟩ := at_ n hn
    have r := List.all_eq_true.mp q.2 n hn
    rw [e1] at r
    simp only [Bool.and_eq_true, decide_eq_true_eq] at r
    rw [ec]
    exact r
  · obtain ⟨e, _, he, ec⟩ := at_ n hn
    rw [ec]
    exact (ok e he).2.2.2.2.2
  · exact PySem.W.mg_none_of X G (stat (ne z)).2.2
end
/-! ### the hook -/
abbrev AlX : Type := He.AlD × Bool × List InW
def asX (g : Addr → Option Obj) : Nat → List Addr
  | 0 => [mainGlobals, cStatics]
  | n + 1 => He.growD g (asX g n)
def obsX (fa : List He.Fa) (fn : List He.DefD) (bs : PySem.W.Frag → Bool) (iv : List Str) (K : PySem.W.Frag) : AlX := (He.obsD fa fn K, bs K, iv.map (inW K))
def obsXG (n : Nat) (fa : List He.Fa) (fn : List He.DefD) (bs : PySem.W.Frag → Bool) (iv : List Str) (g : Addr → Option Obj) : AlX := obsX fa fn bs iv (He.frG g (asX g n))
def hookX (n : Nat) (fa : List He.Fa) (fn : List He.DefD) (bs : PySem.W.Frag → Bool) (iv : List Str) (vals : List InW) : PySem.W.Hook where
  α := AlX
  obs := fun s => obsXG n fa fn bs iv s.heap.get?
  val := fun _ => (He.valD fn, true, vals)
  says := fun _ h => ∃ K : PySem.W.Frag, K.In h ∧ obsX fa fn bs iv K = (He.valD fn, true, vals)
  of := fun _ _ e => ⟨_, He.frG_in, e⟩
  keeps := fun _ _ _ ⟨K, hK, c⟩ k => ⟨K, PySem.W.Frag.In.keeps hK k, c⟩
theorem obsXG_eq {n : Nat} {fa : List He.Fa} {fn : List He.DefD} {bs : PySem.W.Frag → Bool} {iv : List Str} {vals : List InW} {g : Addr → Option Obj} {s : Shared} (h : ∀ a, g a = s.heap.get? a) : obsXG n fa fn bs iv g = (hookX n fa fn bs iv vals).obs s := by
  obtain rfl : g = s.heap.get? := funext h
  rfl
theorem wd_of {defs : List Dt} {consts : List (Str × Int)} {kw : Str → List Str → List Nat → Bool} {P : Program} {w : World} {K : PySem.W.Frag} {h : Heap} {mg : Str → Option Value} (X : K.In h) (G : h.Ns mainGlobals mg) (c : He.SaysD (faOf defs consts) (defs.map ddOf) K)
    (bd : ∀ t ∈ defs, Bd t) (bk : ∀ t ∈ defs, ∀ ks pm, kw t.name ks pm = true → BdK t ks pm) {cl : Cls} (gx : mg "isinstance" = none → Gx cl.xt (caOf K cl) P K mg) : Wd (tbOf defs consts kw cl) defs (gOf consts) (caOf K cl) P w K mg := by
  have bl : ∀ x ∈ bltNs, mg x = none := fun x hx => by
    obtain ⟨j, hj⟩ := List.getElem?_of_mem hx
    have hl : j < (bltNs.map He.Fa.free).length := by
      rw [List.length_map]
      exact (List.getElem?_eq_some_iff.mp hj).1
    have hf : (faOf defs consts)[(defs.map (fun t => He.Fa.glo t.name)).length + j]? = some (.free x) := by
      unfold faOf
      rw [List.getElem?_append_right (Nat.le_add_right _ _), Nat.add_sub_cancel_left, List.getElem?_append_left hl, List.getElem?_map, hj]
      rfl
    exact He.free_ok X G (c.fact _ hf)
  refine ⟨fun x e => ?_, bl, fun x n e => ?_, gx (bl _ (by decide))⟩
  · obtain ⟨i, hi⟩ := Option.isSome_iff_exists.mp (show (consts.lookup x).isSome = true from e)
    obtain ⟨j, hj⟩ := List.getElem?_of_mem (lookup_mem hi)
    have hf : (faOf defs consts)[(defs.map (fun t => He.Fa.glo t.name)).length + ((bltNs.map He.Fa.free).length + j)]? = some (.int x i) := by
      unfold faOf
      rw [List.getElem?_append_right (Nat.le_add_right _ _), Nat.add_sub_cancel_left, List.getElem?_append_right (Nat.le_add_right _ _), Nat.add_sub_cancel_left, List.getElem?_map, hj]
      rfl
    obtain ⟨t, ht⟩ := He.int_ok X G (c.fact _ hf)
    exact ⟨.int i, .int i, .int i t, by unfold gOf; rw [hi]; rfl, ht, ⟨t, rfl⟩, fun H m f => .int i⟩
  · have e' : defs.findIdx? (fun t => t.name == x) = some n := e
    obtain ⟨hn, hp, _⟩ := List.findIdx?_eq_some_iff_getElem.mp e'
    have ht : defs[n]? = some defs[n] := List.getElem?_eq_getElem hn
    have hx : defs[n].name = x := eq_of_beq hp
    have hf : (faOf defs consts)[n]? = some (.glo defs[n].name) := by
      unfold faOf
      rw [List.getElem?_append_left (by rw [List.length_map]; exact hn), List.getElem?_map, ht]
      rfl
    have hd : (defs.map ddOf)[n]? = some (ddOf defs[n]) := by
      rw [List.getElem?_map, ht]
      rfl
    obtain ⟨fd, F⟩ := c.def_ n hd
    have F' : FunT K defs[n] (He.ga K defs[n].name) fd := F
    have hm : defs[n] ∈ defs := List.getElem_mem hn
    refine ⟨defs[n], He.ga K defs[n].name, fd, ht, hx, ?_, F', F'.bindsN (bd _ hm), fun ks pm hk => kper_of F' (bk _ hm ks pm (by rw [hx]; exact hk))⟩
    rw [← hx]
    exact He.glo_ok X G (c.fact n hf)
theorem sp_ok {K : PySem.W.Frag} {CA : Nat → Addr} {g : List W → List Ob → R W} {H : Hp} {a : Addr} {ns : List Int} (hS : SqL K H a (ns.map V.int)) (h : ∃ cs, g [.scr (ns.map W.int)] [] = .ok (.bl true) cs) : spF K CA g [.ref a] H (fun v _ => v = .bl true) E0 := by
  obtain ⟨cs, h⟩ := h
  have r : Rep K H [] [] (.scr (ns.map W.int)) (.ref a) := by
    rcases hS with hS | hS
    · exact .scr hS (by simp) (by simp) (Reps.ints _)
    · exact .kscr hS (Reps.ints _)
  refine ⟨[.scr (ns.map W.int)], [], [], [], .cons r .nil, ⟨rfl, .nil, fun a h => (nomatch h), fun a h => (nomatch h), fun n a o h => (by simp at h)⟩, ?_⟩
  rw [h]
  intro v H' m' k o
  cases o with
  | old r c =>
    cases r
    rfl
theorem fn_calm {P : Program} {w : World} {K : PySem.W.Frag} {mg : Str → Option Value} {base : Heap} {k : Nat} {f : Addr} {fd : FuncData} {ps : List Str} {sp : Sp} (F : FnOk P w K mg base (L2.CX P w) k f fd ps sp) : FnOk P w K mg base CX0 k f fd ps (fun vs H Q _ => sp vs H Q E0) := by
  refine ⟨fun vs H Q _ h => F.len vs H Q E0 h, fun A outer s H args us vs Q E hr he hb hv hs => codeAny_mono (F.run A outer s H args us vs Q E0 hr he hb hv hs) fun r s' h => ?_⟩
  cases r with
  | ok fl => cases fl <;> exact h
  | error e =>
    have h' : L2.CX P w outer H s E0 e s' := h
    obtain ⟨_, _, _, _, _, _, _, _, _, _, _, _, z⟩ := h'
    exact z
/-- the law: its promise, at the top's names -/
theorem law_F {P : Program} {w : World} {K : PySem.W.Frag} {h : Heap} {mg : Str → Option Value} {f : Addr} {defs : List Dt} {consts : List (Str × Int)} {kw : Str → List Str → List Nat → Bool} {cl : Cls} (X : K.In h) (G : h.Ns mainGlobals mg) (hfa : mg ("law" : Str) = some (.ref f))
    (cx : obsX (faOf defs consts) (defs.map ddOf) (clB P.main.file cl) (cl.ec.map (·.x)) K = (He.valD (defs.map ddOf), true, cl.ec.map Ec.val)) (hi : ∀ e ∈ cl.ec, Ic e) (hdb : ∀ e ∈ cl.ec, (e.x == ("__debug__" : Str)) = false) (htop : (P.main.scope.names.lookup ("super" : Str)).isSome = false)
    (bd : ∀ t ∈ defs, Bd t) (bk : ∀ t ∈ defs, ∀ ks pm, kw t.name ks pm = true → BdK t ks pm) (tx : Tx (tbOf defs consts kw cl) defs) {n : Nat} {tl : Dt} (hn : (tbOf defs consts kw cl).df "law" = some n) (ht : defs[n]? = some tl) (hp : tl.ps = (["script"] : List Str)) {fuel k m : Nat}
    (hlaw : ∀ ns : List Int, ns.length ≤ m → ∃ cs, Mi.calls (defs.map (·.d)) (gOf consts) fuel (k + 1) n [.scr (ns.map W.int)] [] = .ok (.bl true) cs) :
    ∃ (fd : FuncData) (sp : Sp), (∀ (s : Shared) (v : Value), BindsTo s fd ⟨[v], []⟩ [("script", v)]) ∧ (∀ (H : Hp) (a : Addr) (ns : List Int), ns.length ≤ m → Only H → SqL K H a (ns.map V.int) → sp [.ref a] H (fun v _ => v = .bl true) fun _ _ _ => False) ∧
      ∀ base : Heap, K.In base → base.Ns mainGlobals mg → FnOk P w K mg base CX0 (k + 3) f fd ["script"] sp := by
  obtain ⟨c, c2, c3⟩ : He.SaysD (faOf defs consts) (defs.map ddOf) K ∧ clB P.main.file cl K = true ∧ (cl.ec.map (·.x)).map (inW K) = cl.ec.map Ec.val := by
    unfold obsX at cx
    simp only [Prod.mk.injEq] at cx
    exact cx
  have hv : ∀ e ∈ cl.ec, inW K e.x = e.val := fun e he => by
    rw [List.map_map] at c3
    exact List.map_inj_left.mp c3 e he
  have wd := wd_of (P := P) (w := w) X G c bd bk (cl := cl) (gx_of X G c2 hv hi hdb htop)
  obtain ⟨t, fa, fd, h1, h2, h3, h4, h5, h6⟩ := wd.fn _ _ hn
  rw [ht] at h1
  cases h1
  rw [h3] at hfa
  cases hfa
  have hm : tl ∈ defs := List.mem_of_getElem? ht
  refine ⟨fd, fun vs H Q _ => spF K (caOf K cl) (fun ws cs => tl.d.run ⟨Mi.calls (defs.map (·.d)) (gOf consts) fuel k, gOf consts, fuel⟩ ws cs) vs H Q E0, fun s v => ?_, fun H a ns hl _ hS => sp_ok hS ?_, fun base _ _ => ?_⟩
  · have q := h4.bindsA (bd _ hm) s [v] (by rw [hp]; rfl)
    rw [hp] at q
    exact q
  · obtain ⟨cs, e⟩ := hlaw ns hl
    refine ⟨cs, ?_⟩
    rw [← e, Mi.calls, List.getElem?_map, ht]
    rfl
  · have q := fn_calm (def_ok (CA := caOf K cl) (by omega) h4 (tx.sc _ hm) (knot (P := P) (w := w) (base := base) fuel wd tx k) (tx.ck _ hm))
    rw [hp] at q
    exact q
/-- the scopes, by the checker -/
def scC (t : Dt) : Bool := (match (defScope t.st).kind with
  | .function => true
  | _ => false) && !(defScope t.st).isCoroutine && !(defScope t.st).isGenerator && decide t.N.Nodup && decide (t.N.take t.ps.length = t.ps) && (t.ps.all fun x => match (defScope t.st).names.lookup x with
  | some .local => true
  | some .cell => true
  | _ => false) && (defScope t.st).names.all fun y => match y.2 with
    | .free => false
    | _ => true
theorem sc_of {t : Dt} (h : scC t = true) : FnScope t.N t.ps (defScope t.st) := by
  unfold scC at h
  simp only [Bool.and_eq_true, Bool.not_eq_true', decide_eq_true_eq, List.all_eq_true] at h
  obtain ⟨⟨⟨⟨⟨⟨h1, h2⟩, h3⟩, h4⟩, h5⟩, h6⟩, h7⟩ := h
  refine ⟨?_, h2, h3, h4, h5, fun x hx => ?_, fun y hy e => ?_⟩
  · split at h1
    · assumption
    · cases h1
  · have q := h6 x hx
    split at q
    · exact .inl (by assumption)
    · exact .inr (by assumption)
    · cases q
  · have q := h7 y hy
    rw [e] at q
    cases q
theorem tx_of {T : Tb} {defs : List Dt} (h : (defs.all fun t => scC t && t.ok T) = true) : Tx T defs :=
  ⟨fun t ht => sc_of (Bool.and_eq_true_iff.mp (List.all_eq_true.mp h t ht)).1, fun t ht => (Bool.and_eq_true_iff.mp (List.all_eq_true.mp h t ht)).2⟩
end So
end S_Heads

section S_K85a
set_option Elab.async false
set_option linter.all false
set_option maxRecDepth 100000
set_option maxHeartbeats 8000000
/-! K85a: the defs as trees, and that they are the text's. -/
namespace K85
open PySem PySem.Spec PyProof.Rows L2 So
open Mi (W Ob Xn R Orc)
def top (i : Nat) : Stmt := PySem.Challenge.pw_everycopy_k85_whole_copies_as_numbers.main.body.getD i (.Pass ⟨0, 0, 0, 0⟩)
def b_is_from_to : Mi.Ss := (.cons (.ret (.and (.isi (.var 0) .int) (.and (.not (.isi (.var 0) .bool)) (.chain .le .le (.var 1) (.var 0) (.var 2))))) .nil)
def t_is_from_to : Dt := ⟨"is_from_to", top 8, ["value", "least", "most"], ["value", "least", "most"], ⟨3, 3, b_is_from_to⟩⟩
def b_check_number : Mi.Ss := (.cons (.ife (.not (.callP 0 (.cons (.var 0) (.cons (.var 1) (.cons (.var 2) .nil))))) (.cons (.raise 0 "value" (.var 0)) .nil) .nil) .nil)
def t_check_number : Dt := ⟨"check_number", top 10, ["value", "least", "most"], ["value", "least", "most"], ⟨3, 3, b_check_number⟩⟩
def b_is_rising : Mi.Ss := (.cons (.ife (.not (.isi (.var 0) .tuple)) (.cons (.ret (.bl false)) .nil) .nil) (.cons (.set 2 (.int 0)) (.cons (.for (.nm 3) (.ex (.var 0)) (.cons (.ife (.not (.callP 0 (.cons (.var 3) (.cons (.var 2) (.cons (.var 1) .nil))))) (.cons (.ret (.bl false)) .nil) .nil) (.cons (.set 2 (.bin .add (.var 3) (.int 1))) .nil))) (.cons (.ret (.bl true)) .nil))))
def t_is_rising : Dt := ⟨"is_rising", top 11, ["value", "most", "least", "one"], ["value", "most"], ⟨4, 2, b_is_rising⟩⟩
def b_numbers_of : Mi.Ss := (.cons (.ret (.blt .tuple (.cons (.comp2 (.bin .add (.bin .mul (.glob "STORES") (.var 2)) (.var 1)) (.tp [2, 3]) (.enum (.var 0)) (.nm 1) (.var 3) [2, 3, 1] [1]) .nil))) .nil)
def t_numbers_of : Dt := ⟨"numbers_of", top 15, ["placing", "store", "piece", "lot"], ["placing"], ⟨4, 1, b_numbers_of⟩⟩
def b_placing_of : Mi.Ss := (.cons (.ex (.callP 1 (.cons (.var 0) (.cons (.int 0) (.cons (.glob "MOST_PIECES") .nil))))) (.cons (.ife (.not (.callP 2 (.cons (.var 1) (.cons (.bin .sub (.bin .mul (.glob "STORES") (.var 0)) (.int 1)) .nil)))) (.cons (.raise 1 "value" (.var 1)) .nil) .nil) (.cons (.set 2 (.cel (.list .nil))) (.cons (.for (.nm 3) (.range (.var 0)) (.cons (.ex (.meth .append (.var 2) (.cons (.blt .tuple (.cons (.comp (.bin .mod (.var 4) (.glob "STORES")) (.nm 4) (.ex (.var 1)) (.some (.cmp .eq (.bin .fdiv (.var 4) (.glob "STORES")) (.var 3))) [4]) .nil)) .nil))) .nil)) (.cons (.ret (.blt .tuple (.cons (.var 2) .nil))) .nil)))))
def t_placing_of : Dt := ⟨"placing_of", top 16, ["many", "numbers", "found", "piece", "number"], ["many", "numbers"], ⟨5, 2, b_placing_of⟩⟩
def b_copies_of : Mi.Ss := (.cons (.ret (.blt .tuple (.cons (.comp (.tuple (.cons (.bin .fdiv (.var 1) (.glob "STORES")) (.cons (.bin .mod (.var 1) (.glob "STORES")) .nil))) (.nm 1) (.ex (.var 0)) .none [1]) .nil))) .nil)
def t_copies_of : Dt := ⟨"copies_of", top 17, ["numbers", "number"], ["numbers"], ⟨2, 1, b_copies_of⟩⟩
def b_unlike_copies : Mi.Ss := (.cons (.set 2 (.callP 3 (.cons (.var 0) .nil))) (.cons (.set 3 (.callP 3 (.cons (.var 1) .nil))) (.cons (.set 4 (.comp (.var 6) (.nm 6) (.ex (.var 2)) (.some (.cmp .notin (.var 6) (.var 3))) [6])) (.cons (.set 5 (.comp (.var 6) (.nm 6) (.ex (.var 3)) (.some (.cmp .notin (.var 6) (.var 2))) [6])) (.cons (.ret (.tuple (.cons (.callP 5 (.cons (.var 4) .nil)) (.cons (.callP 5 (.cons (.var 5) .nil)) .nil)))) .nil)))))
def t_unlike_copies : Dt := ⟨"unlike_copies", top 18, ["placing", "other", "ours", "theirs", "first", "second", "number"], ["placing", "other"], ⟨7, 2, b_unlike_copies⟩⟩
def b_new_copies : Mi.Ss := (.cons (.set 2 (.cel (.list .nil))) (.cons (.for (.tp [3, 4]) (.enum (.var 1)) (.cons (.ex (.meth .extend (.var 2) (.cons (.comp (.tuple (.cons (.var 3) (.cons (.var 5) .nil))) (.nm 5) (.ex (.var 4)) (.some (.cmp .notin (.var 5) (.sub (.var 0) (.var 3)))) [5]) .nil))) .nil)) (.cons (.ret (.blt .tuple (.cons (.var 2) .nil))) .nil)))
def t_new_copies : Dt := ⟨"new_copies", top 20, ["before", "after", "found", "piece", "lot", "store"], ["before", "after"], ⟨6, 2, b_new_copies⟩⟩
def b_law_source : Mi.Ss := (.cons (.set 1 (.int 88172645463325252)) (.cons (.set 2 (.cel (.list .nil))) (.cons (.for (.nm 3) (.ex (.slice (.var 0) .none (.some (.int 63)))) (.cons (.set 1 (.bin .mod (.bin .add (.bin .add (.bin .mul (.var 1) (.var 1)) (.bin .mod (.blt .int (.cons (.var 3) .nil)) (.int 18446744073709551557))) (.int 7046029254386353131)) (.int 18446744073709551557))) (.cons (.ife (.cmp .ge (.var 3) (.bin .pow (.int 10) (.int 18))) (.cons (.ex (.meth .append (.var 2) (.cons (.var 3) .nil))) .nil) .nil) .nil))) (.cons (.ret (.list (.cons (.var 1) (.cons (.int 0) (.cons (.cel (.listR (.var 2))) .nil))))) .nil))))
def t_law_source : Dt := ⟨"_law_source", top 22, ["script", "state", "great", "cell"], ["script"], ⟨4, 1, b_law_source⟩⟩
def b_law_draw : Mi.Ss := (.cons (.set 2 (.cel (.sub (.var 0) (.int 2)))) (.cons (.ife (.and (.cmp .gt (.blt .len (.cons (.var 2) .nil)) (.int 0)) (.cmp .eq (.sub (.var 2) (.neg (.int 1))) (.int 0))) (.cons (.ex (.meth .pop (.var 2) .nil)) .nil) .nil) (.cons (.ife (.cmp .gt (.blt .len (.cons (.var 2) .nil)) (.int 0)) (.cons (.set 3 (.bin .mod (.blt .int (.cons (.sub (.var 2) (.neg (.int 1))) .nil)) (.var 1))) (.cons (.setI (.var 2) (.neg (.int 1)) (.bin .fdiv (.sub (.var 2) (.neg (.int 1))) (.var 1))) (.cons (.ret (.var 3)) .nil))) .nil) (.cons (.setI (.var 0) (.int 1) (.bin .add (.sub (.var 0) (.int 1)) (.int 1))) (.cons (.setI (.var 0) (.int 0) (.bin .mod (.bin .add (.bin .add (.bin .mul (.sub (.var 0) (.int 0)) (.sub (.var 0) (.int 0))) (.bin .mul (.sub (.var 0) (.int 1)) (.int 7046029254386353131))) (.int 1)) (.int 18446744073709551557))) (.cons (.ret (.bin .mod (.blt .int (.cons (.bin .fdiv (.sub (.var 0) (.int 0)) (.int 65536)) .nil)) (.var 1))) .nil))))))
def t_law_draw : Dt := ⟨"_law_draw", top 23, ["src", "limit", "cells", "told"], ["src", "limit"], ⟨4, 2, b_law_draw⟩⟩
def b_law_same : Mi.Ss := (.cons (.ife (.cmp .isN (.var 1) .non) (.cons (.ret (.cmp .isN (.var 0) .non)) .nil) .nil) (.cons (.ife (.isi (.var 1) .bool) (.cons (.ret (.and (.isi (.var 0) .bool) (.cmp .eq (.var 0) (.var 1)))) .nil) .nil) (.cons (.ife (.isi (.var 1) .int) (.cons (.ret (.and (.isi (.var 0) .int) (.and (.not (.isi (.var 0) .bool)) (.cmp .eq (.var 0) (.var 1))))) .nil) .nil) (.cons (.ife (.isi (.var 1) .str) (.cons (.ret (.and (.isi (.var 0) .str) (.cmp .eq (.var 0) (.var 1)))) .nil) .nil) (.cons (.ife (.isi (.var 1) .list) (.cons (.ret (.and (.isi (.var 0) .list) (.callP 10 (.cons (.blt .tuple (.cons (.var 0) .nil)) (.cons (.blt .tuple (.cons (.var 1) .nil)) .nil))))) .nil) .nil) (.cons (.ife (.or (.not (.isi (.var 0) .tuple)) (.cmp .ne (.blt .len (.cons (.var 0) .nil)) (.blt .len (.cons (.var 1) .nil)))) (.cons (.ret (.bl false)) .nil) .nil) (.cons (.ret (.blt .all (.cons (.comp (.callP 10 (.cons (.sub (.var 0) (.var 2)) (.cons (.sub (.var 1) (.var 2)) .nil))) (.nm 2) (.range (.blt .len (.cons (.var 1) .nil))) .none [2]) .nil))) .nil)))))))
def t_law_same : Dt := ⟨"_law_same", top 24, ["told", "due", "k"], ["told", "due"], ⟨3, 2, b_law_same⟩⟩
def b_law_lots : Mi.Ss := (.cons (.set 4 (.list (.cons (.int 1) (.cons (.int 2) (.cons (.int 4) (.cons (.int 8) (.cons (.int 16) (.cons (.int 32) (.cons (.int 64) (.cons (.int 128) .nil)))))))))) (.cons (.set 5 (.cel (.list .nil))) (.cons (.for (.nm 6) (.range (.var 2)) (.cons (.set 7 (.callH 9 (.cons (.var 0) (.cons (.var 1) .nil)))) (.cons (.set 8 (.callH 9 (.cons (.var 0) (.cons (.var 1) .nil)))) (.cons (.set 9 (.callH 9 (.cons (.var 0) (.cons (.int 256) .nil)))) (.cons (.set 10 (.cel (.list (.cons (.var 7) .nil)))) (.cons (.for (.nm 11) (.range (.var 1)) (.cons (.ife (.and (.cmp .ne (.var 11) (.var 7)) (.or (.and (.cmp .eq (.var 3) (.int 1)) (.cmp .eq (.var 11) (.var 8))) (.and (.cmp .eq (.var 3) (.int 2)) (.cmp .eq (.bin .mod (.bin .fdiv (.var 9) (.sub (.var 4) (.var 11))) (.int 2)) (.int 1))))) (.cons (.ex (.meth .append (.var 10) (.cons (.var 11) .nil))) .nil) .nil) .nil)) (.cons (.ex (.meth .append (.var 5) (.cons (.blt .tuple (.cons (.blt .sorted (.cons (.var 10) .nil)) .nil)) .nil))) .nil))))))) (.cons (.ret (.blt .tuple (.cons (.var 5) .nil))) .nil))))
def t_law_lots : Dt := ⟨"_law_lots", top 25, ["src", "stores", "pieces", "kind", "powers", "lots", "k", "first", "second", "bits", "lot", "s"], ["src", "stores", "pieces", "kind"], ⟨12, 4, b_law_lots⟩⟩
def b_law_changed : Mi.Ss := (.cons (.set 4 (.comp (.cel (.blt .list (.cons (.var 6) .nil))) (.nm 6) (.ex (.var 1)) .none [6])) (.cons (.for (.nm 5) (.range (.var 3)) (.cons (.ife (.cmp .gt (.blt .len (.cons (.var 4) .nil)) (.int 0)) (.cons (.set 7 (.cel (.sub (.var 4) (.callH 9 (.cons (.var 0) (.cons (.blt .len (.cons (.var 4) .nil)) .nil)))))) (.cons (.set 8 (.callH 9 (.cons (.var 0) (.cons (.var 2) .nil)))) (.cons (.ife (.cmp .notin (.var 8) (.var 7)) (.cons (.ex (.meth .append (.var 7) (.cons (.var 8) .nil))) .nil) (.cons (.ife (.cmp .gt (.blt .len (.cons (.var 7) .nil)) (.int 1)) (.cons (.ex (.meth .remove (.var 7) (.cons (.var 8) .nil))) .nil) .nil) .nil)) .nil))) .nil) .nil)) (.cons (.ret (.blt .tuple (.cons (.comp (.blt .tuple (.cons (.blt .sorted (.cons (.var 7) .nil)) .nil)) (.nm 7) (.ex (.var 4)) .none [7]) .nil))) .nil)))
def t_law_changed : Dt := ⟨"_law_changed", top 26, ["src", "lots", "stores", "want", "rows", "k", "lot", "row", "store"], ["src", "lots", "stores", "want"], ⟨9, 4, b_law_changed⟩⟩
def b_law_row : Mi.Ss := (.cons (.set 2 (.bin .mul (.int 8) (.var 1))) (.cons (.set 3 (.callH 9 (.cons (.var 0) (.cons (.int 4) .nil)))) (.cons (.set 4 (.cel (.list .nil))) (.cons (.ife (.cmp .eq (.var 3) (.int 0)) (.cons (.set 4 (.cel (.sortS (.comp (.callH 9 (.cons (.var 0) (.cons (.blt .max2 (.cons (.int 1) (.cons (.var 2) .nil))) .nil))) (.nm 8) (.range (.blt .min2 (.cons (.var 2) (.cons (.callH 9 (.cons (.var 0) (.cons (.int 9) .nil))) .nil)))) .none [8])))) .nil) .nil) (.cons (.ife (.or (.cmp .eq (.var 3) (.int 1)) (.cmp .eq (.var 3) (.int 2))) (.cons (.for (.nm 5) (.range (.var 1)) (.cons (.set 6 (.bin .mul (.callH 9 (.cons (.var 0) (.cons (.int 256) .nil))) (.callH 9 (.cons (.var 0) (.cons (.int 2) .nil))))) (.cons (.for (.nm 7) (.range (.int 8)) (.cons (.ife (.cmp .eq (.bin .mod (.var 6) (.int 2)) (.int 1)) (.cons (.ex (.meth .append (.var 4) (.cons (.bin .add (.bin .mul (.int 8) (.var 5)) (.var 7)) .nil))) .nil) .nil) (.cons (.set 6 (.bin .fdiv (.var 6) (.int 2))) .nil))) .nil))) .nil) .nil) (.cons (.ife (.cmp .eq (.var 3) (.int 3)) (.cons (.set 4 (.cel (.listJ (.var 2)))) .nil) .nil) (.cons (.ife (.and (.cmp .gt (.var 2) (.int 0)) (.and (.cmp .eq (.callH 9 (.cons (.var 0) (.cons (.int 2) .nil))) (.int 1)) (.cmp .notin (.bin .sub (.var 2) (.int 1)) (.var 4)))) (.cons (.ex (.meth .append (.var 4) (.cons (.bin .sub (.var 2) (.int 1)) .nil))) .nil) .nil) (.cons (.ret (.blt .tuple (.cons (.var 4) .nil))) .nil))))))))
def t_law_row : Dt := ⟨"_law_row", top 27, ["src", "wide", "size", "kind", "told", "piece", "bits", "s", "k"], ["src", "wide"], ⟨9, 2, b_law_row⟩⟩
def b_law_numbers : Mi.Ss := (.cons (.set 1 (.list .nil)) (.cons (.for (.nm 2) (.range (.blt .len (.cons (.var 0) .nil))) (.cons (.set 1 (.bin .add (.var 1) (.comp (.bin .add (.bin .mul (.int 8) (.var 2)) (.var 3)) (.nm 3) (.ex (.sub (.var 0) (.var 2))) .none [3]))) .nil)) (.cons (.ret (.blt .tuple (.cons (.var 1) .nil))) .nil)))
def t_law_numbers : Dt := ⟨"_law_numbers", top 28, ["lots", "told", "k", "s"], ["lots"], ⟨4, 1, b_law_numbers⟩⟩
def b_law_placed : Mi.Ss := (.cons (.set 2 (.comp (.cel (.list .nil)) (.nm 5) (.range (.var 0)) .none [5])) (.cons (.for (.nm 3) (.ex (.var 1)) (.cons (.set 4 (.cel (.sub (.var 2) (.bin .fdiv (.var 3) (.int 8))))) (.cons (.ex (.meth .append (.var 4) (.cons (.bin .sub (.var 3) (.bin .mul (.bin .fdiv (.var 3) (.int 8)) (.int 8))) .nil))) .nil))) (.cons (.ret (.blt .tuple (.cons (.comp (.blt .tuple (.cons (.var 4) .nil)) (.nm 4) (.ex (.var 2)) .none [4]) .nil))) .nil)))
def t_law_placed : Dt := ⟨"_law_placed", top 29, ["wide", "row", "told", "n", "lot", "k"], ["wide", "row"], ⟨6, 2, b_law_placed⟩⟩
def b_law_alone : Mi.Ss := (.cons (.set 2 (.list .nil)) (.cons (.for (.nm 3) (.range (.blt .len (.cons (.var 0) .nil))) (.cons (.set 2 (.bin .add (.var 2) (.comp (.tuple (.cons (.var 3) (.cons (.var 4) .nil))) (.nm 4) (.ex (.sub (.var 0) (.var 3))) (.some (.cmp .notin (.var 4) (.sub (.var 1) (.var 3)))) [4]))) .nil)) (.cons (.ret (.blt .tuple (.cons (.var 2) .nil))) .nil)))
def t_law_alone : Dt := ⟨"_law_alone", top 30, ["one", "two", "told", "k", "s"], ["one", "two"], ⟨5, 2, b_law_alone⟩⟩
def b_law_ask : Mi.Ss := (.cons (.tryA [] (.cons (.ife (.cmp .eq (.var 2) (.int 1)) (.cons (.ret (.tuple (.cons (.str "told") (.cons (.callHK 4 (.cons (.var 1) (.cons (.var 0) .nil)) [1, 0]) .nil)))) .nil) .nil) (.cons (.ret (.tuple (.cons (.str "told") (.cons (.callH 4 (.cons (.var 0) (.cons (.var 1) .nil))) .nil)))) .nil)) [0, 1] [0, 1] 3 (.cons (.ife (.or (.isx []) (.not .isv)) (.cons (.ret (.tup (.cons (.str "other") (.cons (.int 0) .nil)))) .nil) .nil) (.cons (.ife (.and (.isx [1]) (.not (.isx [0]))) (.cons (.ret (.tup (.cons (.str "lot") (.cons (.fld "value") .nil)))) .nil) .nil) (.cons (.ife (.and (.isx [0]) (.not (.isx [1]))) (.cons (.ret (.tup (.cons (.str "number") (.cons (.fld "value") .nil)))) .nil) .nil) .nil)))) (.cons (.ret (.tuple (.cons (.str "other") (.cons (.int 1) .nil)))) .nil))
def t_law_ask : Dt := ⟨"_law_ask", top 31, ["pieces", "row", "named", "e"], ["pieces", "row", "named"], ⟨4, 3, b_law_ask⟩⟩
def b_law_wrong_rows : Mi.Ss := (.cons (.set 3 (.callH 9 (.cons (.var 0) (.cons (.bin .add (.blt .len (.cons (.var 2) .nil)) (.int 1)) .nil)))) (.cons (.set 4 (.cel (.list (.cons (.blt .list (.cons (.var 2) .nil)) (.cons (.bin .add (.tuple (.cons (.neg (.int 1)) .nil)) (.var 2)) (.cons (.bin .add (.var 2) (.tuple (.cons (.bin .mul (.int 8) (.var 1)) .nil))) (.cons (.bin .add (.var 2) (.tuple (.cons (.bin .add (.bin .add (.bin .mul (.int 8) (.var 1)) (.int 1)) (.callH 9 (.cons (.var 0) (.cons (.int 999) .nil)))) .nil))) .nil))))))) (.cons (.ex (.meth .append (.var 4) (.cons (.sub (.list (.cons .non (.cons (.int 0) (.cons (.str "") (.cons (.str "0") (.cons (.bl true) (.cons (.tuple (.cons (.var 2) .nil)) (.cons (.bin .sub (.bin .mul (.int 8) (.var 1)) (.int 1)) .nil)))))))) (.callH 9 (.cons (.var 0) (.cons (.int 7) .nil)))) .nil))) (.cons (.ex (.meth .append (.var 4) (.cons (.bin .add (.bin .add (.slice (.var 2) .none (.some (.var 3))) (.tuple (.cons (.sub (.list (.cons (.str "1") (.cons .non (.cons (.tuple (.cons (.int 0) .nil)) (.cons (.str "") (.cons (.neg (.int 2)) .nil)))))) (.callH 9 (.cons (.var 0) (.cons (.int 5) .nil)))) .nil))) (.slice (.var 2) (.some (.var 3)) .none)) .nil))) (.cons (.ife (.cmp .gt (.blt .len (.cons (.var 2) .nil)) (.int 0)) (.cons (.set 5 (.sub (.list (.cons (.int 0) (.cons (.bin .sub (.blt .len (.cons (.var 2) .nil)) (.int 1)) (.cons (.callH 9 (.cons (.var 0) (.cons (.blt .len (.cons (.var 2) .nil)) .nil))) .nil)))) (.callH 9 (.cons (.var 0) (.cons (.int 3) .nil))))) (.cons (.ex (.meth .append (.var 4) (.cons (.bin .add (.bin .add (.slice (.var 2) .none (.some (.var 5))) (.tuple (.cons (.sub (.var 2) (.var 5)) (.cons (.sub (.var 2) (.var 5)) .nil)))) (.slice (.var 2) (.some (.bin .add (.var 5) (.int 1))) .none)) .nil))) (.cons (.ex (.meth .append (.var 4) (.cons (.bin .add (.bin .add (.slice (.var 2) .none (.some (.var 5))) (.tuple (.cons (.blt .strI (.cons (.sub (.var 2) (.var 5)) .nil)) .nil))) (.slice (.var 2) (.some (.bin .add (.var 5) (.int 1))) .none)) .nil))) (.cons (.ife (.cmp .le (.sub (.var 2) (.int 0)) (.int 1)) (.cons (.ex (.meth .append (.var 4) (.cons (.bin .add (.tuple (.cons (.cmp .eq (.sub (.var 2) (.int 0)) (.int 1)) .nil)) (.slice (.var 2) (.some (.int 1)) .none)) .nil))) .nil) .nil) .nil)))) .nil) (.cons (.ife (.cmp .gt (.blt .len (.cons (.var 2) .nil)) (.int 1)) (.cons (.set 5 (.sub (.list (.cons (.int 0) (.cons (.bin .sub (.blt .len (.cons (.var 2) .nil)) (.int 2)) (.cons (.callH 9 (.cons (.var 0) (.cons (.bin .sub (.blt .len (.cons (.var 2) .nil)) (.int 1)) .nil))) .nil)))) (.callH 9 (.cons (.var 0) (.cons (.int 3) .nil))))) (.cons (.ex (.meth .append (.var 4) (.cons (.bin .add (.bin .add (.slice (.var 2) .none (.some (.var 5))) (.tuple (.cons (.sub (.var 2) (.bin .add (.var 5) (.int 1))) (.cons (.sub (.var 2) (.var 5)) .nil)))) (.slice (.var 2) (.some (.bin .add (.var 5) (.int 2))) .none)) .nil))) (.cons (.ex (.meth .append (.var 4) (.cons (.bin .add (.slice (.var 2) (.some (.int 1)) .none) (.slice (.var 2) .none (.some (.int 1)))) .nil))) .nil))) .nil) (.cons (.ife (.and (.cmp .gt (.blt .len (.cons (.var 2) .nil)) (.int 1)) (.cmp .eq (.sub (.var 2) (.int 1)) (.int 1))) (.cons (.ex (.meth .append (.var 4) (.cons (.bin .add (.tuple (.cons (.sub (.var 2) (.int 0)) (.cons (.bl true) .nil))) (.slice (.var 2) (.some (.int 2)) .none)) .nil))) .nil) .nil) (.cons (.ret (.var 4)) .nil))))))))
def t_law_wrong_rows : Dt := ⟨"_law_wrong_rows", top 32, ["src", "wide", "row", "at", "rows", "k"], ["src", "wide", "row"], ⟨6, 3, b_law_wrong_rows⟩⟩
def b_law : Mi.Ss := (.cons (.set 1 (.cel (.callH 8 (.cons (.var 0) .nil)))) (.cons (.set 2 (.sub (.list (.cons (.int 8) (.cons (.bin .add (.int 1) (.callH 9 (.cons (.var 1) (.cons (.int 8) .nil)))) .nil))) (.callH 9 (.cons (.var 1) (.cons (.int 2) .nil))))) (.cons (.set 3 (.sub (.list (.cons (.callH 9 (.cons (.var 1) (.cons (.int 3) .nil))) (.cons (.int 40) (.cons (.bin .add (.int 1) (.callH 9 (.cons (.var 1) (.cons (.int 40) .nil)))) (.cons (.bin .add (.int 5) (.callH 9 (.cons (.var 1) (.cons (.int 16) .nil)))) .nil))))) (.callH 9 (.cons (.var 1) (.cons (.int 4) .nil))))) (.cons (.set 4 (.callH 11 (.cons (.var 1) (.cons (.var 2) (.cons (.var 3) (.cons (.callH 9 (.cons (.var 1) (.cons (.int 3) .nil))) .nil)))))) (.cons (.set 5 (.callH 9 (.cons (.var 1) (.cons (.int 4) .nil)))) (.cons (.set 6 (.var 4)) (.cons (.ife (.cmp .eq (.var 5) (.int 1)) (.cons (.set 6 (.callH 11 (.cons (.var 1) (.cons (.var 2) (.cons (.var 3) (.cons (.callH 9 (.cons (.var 1) (.cons (.int 3) .nil))) .nil)))))) .nil) .nil) (.cons (.ife (.cmp .ge (.var 5) (.int 2)) (.cons (.set 6 (.callH 12 (.cons (.var 1) (.cons (.var 4) (.cons (.var 2) (.cons (.bin .add (.int 1) (.callH 9 (.cons (.var 1) (.cons (.int 12) .nil)))) .nil)))))) .nil) .nil) (.cons (.ife (.cmp .eq (.callH 9 (.cons (.var 1) (.cons (.int 2) .nil))) (.int 1)) (.cons (.par 4 6 (.var 6) (.var 4)) .nil) .nil) (.cons (.set 7 (.callH 9 (.cons (.var 1) (.cons (.int 2) .nil)))) (.cons (.ife (.not (.callP 10 (.cons (.callP 3 (.cons (.var 4) .nil)) (.cons (.callP 14 (.cons (.var 4) .nil)) .nil)))) (.cons (.ret (.bl false)) .nil) .nil) (.cons (.ife (.not (.callP 10 (.cons (.callH 17 (.cons (.var 3) (.cons (.callP 14 (.cons (.var 4) .nil)) (.cons (.var 7) .nil)))) (.cons (.tuple (.cons (.str "told") (.cons (.var 4) .nil))) .nil)))) (.cons (.ret (.bl false)) .nil) .nil) (.cons (.set 8 (.tuple (.cons (.callP 16 (.cons (.var 4) (.cons (.var 6) .nil))) (.cons (.callP 16 (.cons (.var 6) (.cons (.var 4) .nil))) .nil)))) (.cons (.ife (.not (.callP 10 (.cons (.callP 6 (.cons (.var 4) (.cons (.var 6) .nil))) (.cons (.var 8) .nil)))) (.cons (.ret (.bl false)) .nil) .nil) (.cons (.ife (.not (.callP 10 (.cons (.callPK 6 (.cons (.var 4) (.cons (.var 6) .nil)) [1, 0]) (.cons (.tuple (.cons (.sub (.var 8) (.int 1)) (.cons (.sub (.var 8) (.int 0)) .nil))) .nil)))) (.cons (.ret (.bl false)) .nil) .nil) (.cons (.ife (.not (.callP 10 (.cons (.tuple (.cons (.callP 7 (.cons (.var 6) (.cons (.var 4) .nil))) (.cons (.callP 7 (.cons (.var 4) (.cons (.var 6) .nil))) .nil))) (.cons (.var 8) .nil)))) (.cons (.ret (.bl false)) .nil) .nil) (.cons (.set 9 (.sub (.list (.cons (.int 0) (.cons (.int 1) (.cons (.int 40) (.cons (.callH 9 (.cons (.var 1) (.cons (.int 41) .nil))) (.cons (.bin .add (.int 2) (.callH 9 (.cons (.var 1) (.cons (.int 10) .nil)))) .nil)))))) (.callH 9 (.cons (.var 1) (.cons (.int 5) .nil))))) (.cons (.set 10 (.callH 13 (.cons (.var 1) (.cons (.var 9) .nil)))) (.cons (.ife (.not (.callP 10 (.cons (.callH 17 (.cons (.var 9) (.cons (.var 10) (.cons (.bin .sub (.int 1) (.var 7)) .nil)))) (.cons (.tuple (.cons (.str "told") (.cons (.callP 15 (.cons (.var 9) (.cons (.var 10) .nil))) .nil))) .nil)))) (.cons (.ret (.bl false)) .nil) .nil) (.cons (.set 11 (.sub (.list (.cons (.int 41) (.cons (.neg (.int 1)) (.cons (.bl true) (.cons (.bl false) (.cons .non (.cons (.str "3") (.cons (.tuple (.cons (.int 1) .nil)) (.cons (.bin .add (.int 42) (.callH 9 (.cons (.var 1) (.cons (.int 9999) .nil)))) .nil))))))))) (.callH 9 (.cons (.var 1) (.cons (.int 8) .nil))))) (.cons (.set 12 (.callH 18 (.cons (.var 1) (.cons (.var 9) (.cons (.var 10) .nil))))) (.cons (.ife (.not (.callP 10 (.cons (.callH 17 (.cons (.var 11) (.cons (.var 10) (.cons (.var 7) .nil)))) (.cons (.tuple (.cons (.str "number") (.cons (.var 11) .nil))) .nil)))) (.cons (.ret (.bl false)) .nil) .nil) (.cons (.ife (.not (.callP 10 (.cons (.callH 17 (.cons (.var 11) (.cons (.sub (.var 12) (.callH 9 (.cons (.var 1) (.cons (.blt .len (.cons (.var 12) .nil)) .nil)))) (.cons (.bin .sub (.int 1) (.var 7)) .nil)))) (.cons (.tuple (.cons (.str "number") (.cons (.var 11) .nil))) .nil)))) (.cons (.ret (.bl false)) .nil) .nil) (.cons (.for (.nm 13) (.ex (.var 12)) (.cons (.ife (.not (.callP 10 (.cons (.callH 17 (.cons (.var 9) (.cons (.var 13) (.cons (.var 7) .nil)))) (.cons (.tuple (.cons (.str "lot") (.cons (.var 13) .nil))) .nil)))) (.cons (.ret (.bl false)) .nil) .nil) .nil)) (.cons (.ret (.callP 10 (.cons (.callH 17 (.cons (.var 9) (.cons (.var 10) (.cons (.var 7) .nil)))) (.cons (.tuple (.cons (.str "told") (.cons (.callP 15 (.cons (.var 9) (.cons (.var 10) .nil))) .nil))) .nil)))) .nil)))))))))))))))))))))))))
def t_law : Dt := ⟨"law", top 33, ["script", "src", "stores", "pieces", "first", "kind", "second", "named", "alone", "wide", "row", "wrong", "rows", "bad"], ["script"], ⟨14, 1, b_law⟩⟩
def defs : List Dt := [t_is_from_to, t_check_number, t_is_rising, t_numbers_of, t_placing_of, t_copies_of, t_unlike_copies, t_new_copies, t_law_source, t_law_draw, t_law_same, t_law_lots, t_law_changed, t_law_row, t_law_numbers, t_law_placed, t_law_alone, t_law_ask, t_law_wrong_rows, t_law]
def consts : List (Str × Int) := [("STORES", 8), ("MOST_PIECES", 40)]
def ecs : List Ec := [⟨"InvalidNumber", "value", initOf (top 2)⟩, ⟨"InvalidLot", "value", initOf (top 4)⟩]
def cls : Cls := ⟨ecs, [("MoveError", [0, 1]), ("InvalidMarks", []), ("InvalidPlacing", []), ("Undefined", []), ("InvalidLot", [1]), ("InvalidNumber", [0])]⟩
theorem bd_is_from_to : Bd t_is_from_to := fun _ _ _ _ _ _ us hl => match us, hl with | [_, _, _], _ => rfl
theorem bd_check_number : Bd t_check_number := fun _ _ _ _ _ _ us hl => match us, hl with | [_, _, _], _ => rfl
theorem bd_is_rising : Bd t_is_rising := fun _ _ _ _ _ _ us hl => match us, hl with | [_, _], _ => rfl
theorem bd_numbers_of : Bd t_numbers_of := fun _ _ _ _ _ _ us hl => match us, hl with | [_], _ => rfl
theorem bd_placing_of : Bd t_placing_of := fun _ _ _ _ _ _ us hl => match us, hl with | [_, _], _ => rfl
theorem bd_copies_of : Bd t_copies_of := fun _ _ _ _ _ _ us hl => match us, hl with | [_], _ => rfl
theorem bd_unlike_copies : Bd t_unlike_copies := fun _ _ _ _ _ _ us hl => match us, hl with | [_, _], _ => rfl
theorem bd_new_copies : Bd t_new_copies := fun _ _ _ _ _ _ us hl => match us, hl with | [_, _], _ => rfl
theorem bd_law_source : Bd t_law_source := fun _ _ _ _ _ _ us hl => match us, hl with | [_], _ => rfl
theorem bd_law_draw : Bd t_law_draw := fun _ _ _ _ _ _ us hl => match us, hl with | [_, _], _ => rfl
theorem bd_law_same : Bd t_law_same := fun _ _ _ _ _ _ us hl => match us, hl with | [_, _], _ => rfl
theorem bd_law_lots : Bd t_law_lots := fun _ _ _ _ _ _ us hl => match us, hl with | [_, _, _, _], _ => rfl
theorem bd_law_changed : Bd t_law_changed := fun _ _ _ _ _ _ us hl => match us, hl with | [_, _, _, _], _ => rfl
theorem bd_law_row : Bd t_law_row := fun _ _ _ _ _ _ us hl => match us, hl with | [_, _], _ => rfl
theorem bd_law_numbers : Bd t_law_numbers := fun _ _ _ _ _ _ us hl => match us, hl with | [_], _ => rfl
theorem bd_law_placed : Bd t_law_placed := fun _ _ _ _ _ _ us hl => match us, hl with | [_, _], _ => rfl
theorem bd_law_alone : Bd t_law_alone := fun _ _ _ _ _ _ us hl => match us, hl with | [_, _], _ => rfl
theorem bd_law_ask : Bd t_law_ask := fun _ _ _ _ _ _ us hl => match us, hl with | [_, _, _], _ => rfl
theorem bd_law_wrong_rows : Bd t_law_wrong_rows := fun _ _ _ _ _ _ us hl => match us, hl with | [_, _, _], _ => rfl
theorem bd_law : Bd t_law := fun _ _ _ _ _ _ us hl => match us, hl with | [_], _ => rfl
theorem bd : ∀ t ∈ defs, Bd t := List.forall_mem_cons.mpr ⟨bd_is_from_to, List.forall_mem_cons.mpr ⟨bd_check_number, List.forall_mem_cons.mpr ⟨bd_is_rising, List.forall_mem_cons.mpr ⟨bd_numbers_of, List.forall_mem_cons.mpr ⟨bd_placing_of, List.forall_mem_cons.mpr ⟨bd_copies_of, List.forall_mem_cons.mpr ⟨bd_unlike_copies, List.forall_mem_cons.mpr ⟨bd_new_copies, List.forall_mem_cons.mpr ⟨bd_law_source, List.forall_mem_cons.mpr ⟨bd_law_draw, List.forall_mem_cons.mpr ⟨bd_law_same, List.forall_mem_cons.mpr ⟨bd_law_lots, List.forall_mem_cons.mpr ⟨bd_law_changed, List.forall_mem_cons.mpr ⟨bd_law_row, List.forall_mem_cons.mpr ⟨bd_law_numbers, List.forall_mem_cons.mpr ⟨bd_law_placed, List.forall_mem_cons.mpr ⟨bd_law_alone, List.forall_mem_cons.mpr ⟨bd_law_ask, List.forall_mem_cons.mpr ⟨bd_law_wrong_rows, List.forall_mem_cons.mpr ⟨bd_law, fun _ h => nomatch h⟩⟩⟩⟩⟩⟩⟩⟩⟩⟩⟩⟩⟩⟩⟩⟩⟩⟩⟩⟩
def loose : List PySem.Str := (["MoveError", "InvalidNumber", "InvalidPlacing", "InvalidLot", "Undefined", "InvalidMarks", "is_from_to", "check_number", "is_rising", "STORES", "MOST_PIECES", "numbers_of", "placing_of", "copies_of", "unlike_copies", "new_copies", "_law_source", "_law_draw", "_law_same", "_law_lots", "_law_changed", "_law_row", "_law_numbers", "_law_placed", "_law_alone", "_law_ask", "_law_wrong_rows"] : List PySem.Str)
def lawAt : Nat := 33
def kw (x : Str) (ks : List Str) (pm : List Nat) : Bool := (x == "placing_of" && ks == (["numbers", "many"] : List Str) && pm == [1, 0]) || (x == "unlike_copies" && ks == (["other", "placing"] : List Str) && pm == [1, 0])
theorem find_t {x : Str} {t0 : Dt} (q : ∀ t ∈ defs, t.name = x → t = t0) {t : Dt} (ht : t ∈ defs) (h : t.name = x) : t = t0 := q t ht h
theorem bk : ∀ t ∈ defs, ∀ ks pm, kw t.name ks pm = true → BdK t ks pm := by
  intro t ht ks pm h
  unfold kw at h
  simp only [Bool.or_eq_true, Bool.and_eq_true, beq_iff_eq] at h
  rcases h with ⟨⟨h1, h2⟩, h3⟩ | ⟨⟨h1, h2⟩, h3⟩
  · subst h2 h3
    have e : t = t_placing_of := by
      have q : ∀ t ∈ defs, t.name = ("placing_of" : Str) → t = t_placing_of := by
        simp only [defs, List.forall_mem_cons]
        repeat' apply And.intro
        all_goals first
          | exact fun _ => trivial
          | exact fun _ => rfl
          | exact fun h => absurd h (by decide)
          | exact fun _ h => nomatch h
      exact q t ht h1
    subst e
    exact fun _ _ _ _ _ _ ws hl => match ws, hl with
      | [_, _], _ => rfl
      | _ :: _ :: _ :: _, _ => rfl
  · subst h2 h3
    have e : t = t_unlike_copies := by
      have q : ∀ t ∈ defs, t.name = ("unlike_copies" : Str) → t = t_unlike_copies := by
        simp only [defs, List.forall_mem_cons]
        repeat' apply And.intro
        all_goals first
          | exact fun _ => trivial
          | exact fun _ => rfl
          | exact fun h => absurd h (by decide)
          | exact fun _ h => nomatch h
      exact q t ht h1
    subst e
    exact fun _ _ _ _ _ _ ws hl => match ws, hl with
      | [_, _], _ => rfl
      | _ :: _ :: _ :: _, _ => rfl
theorem tx : Tx (tbOf defs consts kw cls) defs := tx_of (by decide +kernel)
end K85
end S_K85a

section S_K85h
set_option Elab.async false
set_option linter.all false
set_option maxRecDepth 100000
set_option maxHeartbeats 0
/-! K85h: the head of the law. -/
namespace K85
open PySem PySem.Spec PyProof.Rows L2 So
abbrev RR : PySem.W.OpenRow := PySem.W.OpenLaw.row PySem.Challenge.rw_everycopy_k85_whole_copies_as_numbers
def fa : List He.Fa := faOf defs consts
def fn : List He.DefD := defs.map ddOf
def ivs : List Str := cls.ec.map (·.x)
def vals : List InW := cls.ec.map Ec.val
def bs : PySem.W.Frag → Bool := clB RR.prog.main.file cls
abbrev hk : PySem.W.Hook := hookX 5 fa fn bs ivs vals
def ob (s : PySem.W.SharedT) : AlX := obsXG 5 fa fn bs ivs (HandSHeadRun.getT s)
theorem ob_eq (s : PySem.W.SharedT) : ob s = hk.obs s.abs := obsXG_eq (HandSHeadRun.getT_eq s)
theorem ic0 : Ic ⟨"InvalidNumber", "value", initOf (top 2)⟩ := ⟨"self", "value", NdefX.nscope_by (by decide +kernel), by rfl, ⟨_, rfl, rfl⟩, by decide, by decide, by decide, by decide,
  ⟨_, _, _, _, _, _, _, _, _, _, _, _, by rfl, rfl⟩, fun _ _ _ _ _ _ _ _ _ us hl => match us, hl with | [_, _], _ => rfl⟩
theorem ic1 : Ic ⟨"InvalidLot", "value", initOf (top 4)⟩ := ⟨"self", "value", NdefX.nscope_by (by decide +kernel), by rfl, ⟨_, rfl, rfl⟩, by decide, by decide, by decide, by decide,
  ⟨_, _, _, _, _, _, _, _, _, _, _, _, by rfl, rfl⟩, fun _ _ _ _ _ _ _ _ _ us hl => match us, hl with | [_, _], _ => rfl⟩
theorem ics : ∀ e ∈ cls.ec, Ic e := List.forall_mem_cons.mpr ⟨ic0, List.forall_mem_cons.mpr ⟨ic1, fun _ h => nomatch h⟩⟩
theorem hrun (w : World) : HandSHeadRun.RunEq RR (PySem.W.view RR.prog [lawAt]) hk ob 6000 loose w := by
  intro os
  kernel_rfl
theorem holds_of {fuel k : Nat} (hk : k + 3 ≤ 40) (hlaw : ∀ ns : List Int, ns.length ≤ 63 → ∃ cs, Mi.calls (defs.map (·.d)) (gOf consts) fuel (k + 1) 19 [.scr (ns.map Mi.W.int)] [] = .ok (.bl true) cs) : PySem.Challenge.rw_everycopy_k85_whole_copies_as_numbers.Holds := by
  w_on; o_law
  refine HandSHeadRun.head_any (r := RR) (q := PySem.W.view RR.prog [lawAt]) (H := K85.hk) (ob := ob) (M := 6000) (loose := loose) (d := HandSHeadRun.topDef RR.prog lawAt) (kwd := []) ob_eq
    (by kernel_rfl) (fun s => by kernel_rfl) hrun (by kernel_rfl) (by kernel_rfl) (by kernel_rfl) (by rfl) (by first | assumption | decide +kernel) (by decide +kernel) ⟨rfl, rfl, rfl, rfl, rfl, by decide +kernel⟩ ?hw ?hc
  case hw => w_witness2
  case hc =>
    refine L2.walk_ofE (l := PySem.Challenge.rw_everycopy_k85_whole_copies_as_numbers) (n := 63) (k := 40) (x := "script") (CX := L2.CX0) rfl (by decide) (by kernel_rfl) ⟨rfl, by decide, by decide⟩ ?F (fun _ _ _ _ z => z)
    intro w mg f h Y G hmg0
    obtain ⟨K, KX, c⟩ := Y
    have hmg : mg ("law" : PySem.Str) = some (.ref f) := by
      have e : (HandSHeadRun.topDef RR.prog lawAt).name = ("law" : PySem.Str) := by kernel_rfl
      rw [← e]
      exact hmg0
    obtain ⟨fd, sp, hb, hsp, hF⟩ := law_F (P := RR.prog) (w := w) KX G hmg c ics (by decide +kernel) (by decide +kernel) bd bk tx (n := 19) (tl := t_law) (by decide +kernel) rfl rfl hlaw
    exact ⟨K, fd, sp, KX, hb, hsp, fun base h1 h2 => (hF base h1 h2).mono hk⟩
end K85
end S_K85h

section S_EvLib
set_option Elab.async false
set_option linter.all false
/-! EvLib: reasoning about the evaluator. -/
namespace Ev
open Mi
abbrev ME := Mi.Env
/-- r ends well, with Q -/
structure Sat {α : Type} (r : R α) (Q : α → List Ob → Prop) : Prop where
  ex : ∃ a cs, r = .ok a cs ∧ Q a cs
@[simp] theorem sat_ok {α : Type} (a : α) (cs : List Ob) (Q : α → List Ob → Prop) : Sat (.ok a cs) Q = Q a cs := by
  refine propext ⟨fun h => ?_, fun h => ⟨⟨_, _, rfl, h⟩⟩⟩
  obtain ⟨a', cs', e, q⟩ := h.ex
  cases e
  exact q
@[simp] theorem sat_bad {α : Type} (Q : α → List Ob → Prop) : Sat (R.bad : R α) Q = False :=
  propext ⟨fun h => (by obtain ⟨_, _, e, _⟩ := h.ex; cases e), False.elim⟩
theorem Sat.ok {α : Type} {a : α} {cs : List Ob} {Q : α → List Ob → Prop} (q : Q a cs) : Sat (.ok a cs) Q := ⟨⟨_, _, rfl, q⟩⟩
@[simp] theorem bind_ok {α β : Type} (a : α) (cs : List Ob) (f : α → List Ob → R β) : (R.ok a cs).bind f = f a cs := by rw [R.bind]
@[simp] theorem noX_ok {α : Type} (a : α) (cs : List Ob) : (R.ok a cs).noX = .ok a cs := by rw [R.noX]
@[simp] theorem ofO_some {α : Type} (a : α) (cs : List Ob) : ofO (some a) cs = .ok a cs := by rw [ofO]
theorem sat_of {α : Type} {r : R α} {Q : α → List Ob → Prop} {a : α} {cs : List Ob} (h : r = .ok a cs) (q : Q a cs) : Sat r Q := ⟨⟨_, _, h, q⟩⟩
theorem Sat.mono {α : Type} {r : R α} {Q Q' : α → List Ob → Prop} (h : Sat r Q) (q : ∀ a cs, Q a cs → Q' a cs) : Sat r Q' := by
  obtain ⟨a, cs, e, z⟩ := h.ex
  exact ⟨⟨a, cs, e, q _ _ z⟩⟩
theorem Sat.bind {α β : Type} {r : R α} {f : α → List Ob → R β} {Q : α → List Ob → Prop} {Q' : β → List Ob → Prop} (h : Sat r Q)
    (q : ∀ a cs, Q a cs → Sat (f a cs) Q') : Sat (r.bind f) Q' := by
  obtain ⟨a, cs, e, z⟩ := h.ex
  subst e
  exact q _ _ z

/-! ### statements -/
variable {O : Orc}
theorem sat_nil {ρ : ME} {cs : List Ob} {Q : Fl → List Ob → Prop} (h : Q (.nx ρ) cs) : Sat (runs O .nil ρ cs) Q := by
  rw [runs, sat_ok]; exact h
theorem sat_cons {s : S} {ss : Ss} {ρ : ME} {cs : List Ob} {Q : Fl → List Ob → Prop}
    (h : Sat (run O s ρ cs) fun fl cs1 => match fl with
      | .nx ρ1 => Sat (runs O ss ρ1 cs1) Q
      | fl => Q fl cs1) : Sat (runs O (.cons s ss) ρ cs) Q := by
  rw [runs]
  refine h.bind fun fl cs1 z => ?_
  cases fl <;> first | exact z | exact .ok z
theorem sat_set {i : Nat} {e : Ex} {ρ : ME} {cs : List Ob} {Q : Fl → List Ob → Prop}
    (h : Sat (ev O ρ e cs) fun x cs1 => Q (.nx (ρ.set i (some (fz x)))) cs1) : Sat (run O (.set i e) ρ cs) Q := by
  rw [run]
  exact h.bind fun x cs1 z => .ok z
theorem sat_ex {e : Ex} {ρ : ME} {cs : List Ob} {Q : Fl → List Ob → Prop}
    (h : Sat (ev O ρ e cs) fun _ cs1 => Q (.nx ρ) cs1) : Sat (run O (.ex e) ρ cs) Q := by
  rw [run]
  exact h.bind fun x cs1 z => .ok z
theorem sat_ret {e : Ex} {ρ : ME} {cs : List Ob} {Q : Fl → List Ob → Prop}
    (h : Sat (ev O ρ e cs) fun x cs1 => Q (.ret x) cs1) : Sat (run O (.ret e) ρ cs) Q := by
  rw [run]
  exact h.bind fun x cs1 z => .ok z
theorem sat_if {c : Ex} {t e : Ss} {ρ : ME} {cs : List Ob} {Q : Fl → List Ob → Prop}
    (h : Sat (ev O ρ c cs) fun x cs1 => match x with
      | .bl true => Sat (runs O t ρ cs1) Q
      | .bl false => Sat (runs O e ρ cs1) Q
      | _ => False) : Sat (run O (.ife c t e) ρ cs) Q := by
  rw [run, test]
  obtain ⟨x, cs1, e1, z⟩ := h.ex
  rw [e1]
  cases x with
  | bl b => cases b <;> exact z
  | _ => exact z.elim
/-- step ahead by a first statement that goes on -/
theorem sat_go {s : S} {ss : Ss} {ρ : ME} {cs : List Ob} {Q : Fl → List Ob → Prop} (M : ME → List Ob → Prop)
    (h : Sat (run O s ρ cs) fun fl cs1 => ∃ ρ1, fl = .nx ρ1 ∧ M ρ1 cs1) (k : ∀ ρ1 cs1, M ρ1 cs1 → Sat (runs O ss ρ1 cs1) Q) : Sat (runs O (.cons s ss) ρ cs) Q := by
  refine sat_cons (h.mono fun fl cs1 z => ?_)
  obtain ⟨ρ1, e, m⟩ := z
  subst e
  exact k _ _ m

/-! ### loops -/
theorem sat_forGo {g : W → ME → List Ob → R Fl} {Q : Fl → List Ob → Prop} (I : List W → ME → List Ob → Prop)
    (h : ∀ x xs ρ cs, I (x :: xs) ρ cs → Sat (g x ρ cs) fun fl cs1 => match fl with
      | .nx ρ1 => I xs ρ1 cs1
      | .ct ρ1 => I xs ρ1 cs1
      | .bk ρ1 => Q (.nx ρ1) cs1
      | .ret w => Q (.ret w) cs1)
    (d : ∀ ρ cs, I [] ρ cs → Q (.nx ρ) cs) : ∀ (xs : List W) (ρ : ME) (cs : List Ob), I xs ρ cs → Sat (forGo g xs ρ cs) Q
  | [], ρ, cs, i => by rw [forGo, sat_ok]; exact d _ _ i
  | x :: xs, ρ, cs, i => by
      rw [forGo]
      refine (h x xs ρ cs i).bind fun fl cs1 z => ?_
      cases fl with
      | nx ρ1 => exact sat_forGo I h d xs ρ1 cs1 z
      | ct ρ1 => exact sat_forGo I h d xs ρ1 cs1 z
      | bk ρ1 => exact .ok z
      | ret w => exact .ok z
/-- over items that stand still -/
theorem sat_for {t : Tg} {it : It} {b : Ss} {ρ : ME} {cs : List Ob} {Q : Fl → List Ob → Prop} {xs : List W} (he : evI O ρ it cs = .ok (.im xs) cs) (I : List W → ME → List Ob → Prop)
    (i : I xs ρ cs)
    (h : ∀ x xs ρ cs, I (x :: xs) ρ cs → Sat (match put t (fz x) ρ with | some ρ' => runs O b ρ' cs | none => .bad) fun fl cs1 => match fl with
      | .nx ρ1 => I xs ρ1 cs1
      | .ct ρ1 => I xs ρ1 cs1
      | .bk ρ1 => Q (.nx ρ1) cs1
      | .ret w => Q (.ret w) cs1)
    (d : ∀ ρ cs, I [] ρ cs → Q (.nx ρ) cs) : Sat (run O (.for t it b) ρ cs) Q := by
  rw [run, he, bind_ok, forS]
  exact sat_forGo I h d xs ρ cs i
theorem sat_while {c : Ex} {b : Ss} {Q : Fl → List Ob → Prop} (I : Nat → ME → List Ob → Prop)
    (h : ∀ k ρ cs, I k ρ cs → Sat (ev O ρ c cs) fun x cs1 => match x with
      | .bl true => Sat (runs O b ρ cs1) fun fl cs2 => match fl with
        | .nx ρ1 => ∃ j, j < k ∧ I j ρ1 cs2
        | .ct ρ1 => ∃ j, j < k ∧ I j ρ1 cs2
        | .bk ρ1 => Q (.nx ρ1) cs2
        | .ret w => Q (.ret w) cs2
      | .bl false => Q (.nx ρ) cs1
      | _ => False) {ρ : ME} {cs : List Ob} {k : Nat} (i : I k ρ cs) (hk : k < O.fuel) : Sat (run O (.while c b) ρ cs) Q := by
  rw [run]
  generalize O.fuel = f at hk
  induction f generalizing k ρ cs with
  | zero => omega
  | succ f ih =>
      rw [whGo]
      obtain ⟨x, cs1, e, z⟩ := (h k ρ cs i).ex
      rw [test, e, bind_ok]
      cases x with
      | bl v =>
          cases v with
          | false => exact .ok z
          | true =>
              have z' : Sat (runs O b ρ cs1) fun fl cs2 => match fl with
                | .nx ρ1 => ∃ j, j < k ∧ I j ρ1 cs2
                | .ct ρ1 => ∃ j, j < k ∧ I j ρ1 cs2
                | .bk ρ1 => Q (.nx ρ1) cs2
                | .ret w => Q (.ret w) cs2 := z
              show Sat ((runs O b ρ cs1).bind _) Q
              refine z'.bind fun fl cs2 z2 => ?_
              cases fl with
              | nx ρ1 => obtain ⟨j, hj, i2⟩ := z2; exact ih i2 (by omega)
              | ct ρ1 => obtain ⟨j, hj, i2⟩ := z2; exact ih i2 (by omega)
              | bk ρ1 => exact .ok z2
              | ret w => exact .ok z2
      | _ => exact z.elim
/-- over a cell that stays as long as it is -/
theorem sat_forCe {g : W → ME → List Ob → R Fl} {n : Nat} {Q : Fl → List Ob → Prop} (I : Nat → Nat → ME → List Ob → Prop)
    (h : ∀ i k ρ cs, I i (k + 1) ρ cs → ∃ xs x, cellL cs n = some xs ∧ xs[i]? = some x ∧ Sat (g x ρ cs) fun fl cs1 => match fl with
      | .nx ρ1 => I (i + 1) k ρ1 cs1
      | .ct ρ1 => I (i + 1) k ρ1 cs1
      | .bk ρ1 => Q (.nx ρ1) cs1
      | .ret w => Q (.ret w) cs1)
    (d : ∀ i ρ cs, I i 0 ρ cs → (∃ xs, cellL cs n = some xs ∧ xs.length ≤ i) ∧ Q (.nx ρ) cs) : ∀ (k i : Nat) (ρ : ME) (cs : List Ob), I i k ρ cs → Sat (forCe g n i k ρ cs) Q
  | 0, i, ρ, cs, z => by
      obtain ⟨⟨xs, e, l⟩, q⟩ := d _ _ _ z
      rw [forCe, e]
      simp only [l, if_true]
      exact .ok q
  | k + 1, i, ρ, cs, z => by
      obtain ⟨xs, x, e, e2, q⟩ := h _ _ _ _ z
      rw [forCe, e]
      simp only [e2]
      refine q.bind fun fl cs1 z => ?_
      cases fl with
      | nx ρ1 => exact sat_forCe I h d k (i + 1) ρ1 cs1 z
      | ct ρ1 => exact sat_forCe I h d k (i + 1) ρ1 cs1 z
      | bk ρ1 => exact .ok z
      | ret w => exact .ok z

/-! ### comprehensions -/
theorem compGo_map {F : W → List Ob → R (Option W)} {f : W → Option W} {cs : List Ob} : ∀ {xs : List W}, (∀ x ∈ xs, F x cs = .ok (f x) cs) → compGo F xs cs = .ok (xs.filterMap f) cs
  | [], _ => rfl
  | x :: xs, h => by
      rw [compGo, h x (List.mem_cons_self ..), bind_ok, compGo_map fun y hy => h y (List.mem_cons_of_mem _ hy), bind_ok]
      cases e : f x <;> simp [List.filterMap_cons, e]
theorem sat_compGo {F : W → List Ob → R (Option W)} {Q : List W → List Ob → Prop} (I : List W → List W → List Ob → Prop)
    (h : ∀ x xs ys cs, I (x :: xs) ys cs → Sat (F x cs) fun o cs1 => I xs (ys ++ o.toList) cs1)
    : ∀ (xs ys : List W) (cs : List Ob), I xs ys cs → (∀ zs cs1, I [] (ys ++ zs) cs1 → Q zs cs1) → Sat (compGo F xs cs) Q
  | [], ys, cs, i, d => by rw [compGo, sat_ok]; exact d [] cs (by rw [List.append_nil]; exact i)
  | x :: xs, ys, cs, i, d => by
      rw [compGo]
      refine (h x xs ys cs i).bind fun o cs1 z => ?_
      refine (sat_compGo (Q := fun zs cs2 => Q (o.toList ++ zs) cs2) I h xs (ys ++ o.toList) cs1 z fun zs cs2 i2 => d _ _ (by rw [← List.append_assoc]; exact i2)).bind fun zs cs2 q => ?_
      cases o with
      | none => exact .ok q
      | some y => exact .ok q

/-! ### calls -/
theorem sat_def {d : Def} {ws : List W} {cs : List Ob} {Q : W → List Ob → Prop} (hl : ws.length = d.pars)
    (h : Sat (runs O d.body (entry d ws) cs) fun fl cs1 => match fl with
      | .nx _ => Q .non cs1
      | .ret w => Q w cs1
      | _ => False) : Sat (d.run O ws cs) Q := by
  rw [Def.run, if_pos hl]
  refine h.bind fun fl cs1 z => ?_
  cases fl with
  | nx ρ => exact .ok z
  | ret w => exact .ok z
  | bk ρ => exact z.elim
  | ct ρ => exact z.elim
theorem callP_eq {f : Nat} {ws vs : List W} {cs c1 : List Ob} {w v : W} (h1 : derefL (deref cs deep) ws = some vs) (h2 : O.call f vs [] = .ok w c1) (h3 : handed c1 w = some v) :
    callP O f ws cs = .ok v cs := by
  rw [callP, h1]
  simp only [h2, h3]
theorem sat_callP {f : Nat} {ws vs : List W} {cs : List Ob} {Q : W → List Ob → Prop} (h1 : derefL (deref cs deep) ws = some vs)
    (h : Sat (O.call f vs []) fun w c1 => ∃ v, handed c1 w = some v ∧ Q v cs) : Sat (callP O f ws cs) Q := by
  obtain ⟨w, c1, e, v, e2, q⟩ := h.ex
  rw [callP_eq h1 e e2]
  exact .ok q

/-! ### numbers -/
def nums (ns : List Int) : List W := ns.map W.int
abbrev tI (ns : List Int) : W := .tup (nums ns)
@[simp] theorem nums_len (ns : List Int) : (nums ns).length = ns.length := by simp [nums]
@[simp] theorem nums_nil : nums [] = [] := rfl
@[simp] theorem nums_cons (n : Int) (ns : List Int) : nums (n :: ns) = .int n :: nums ns := rfl
@[simp] theorem nums_app (as bs : List Int) : nums as ++ nums bs = nums (as ++ bs) := by simp [nums]
@[simp] theorem nums_get (ns : List Int) (i : Nat) : (nums ns)[i]? = ns[i]?.map W.int := by simp [nums]
@[simp] theorem nums_inj {as bs : List Int} : nums as = nums bs ↔ as = bs := by
  refine ⟨fun h => ?_, fun h => h ▸ rfl⟩
  exact (List.map_inj_right (fun x y e => by cases e; rfl)).mp h
theorem derefL_nums {d : W → Option W} (h : ∀ i, d (.int i) = some (.int i)) : ∀ (ns : List Int), derefL d (nums ns) = some (nums ns)
  | [] => rfl
  | n :: ns => by rw [nums_cons, derefL, h, derefL_nums h ns]
@[simp] theorem deref_int (cs : List Ob) (i : Int) : deref cs deep (.int i) = some (.int i) := rfl
@[simp] theorem deref_bl (cs : List Ob) (i : Bool) : deref cs deep (.bl i) = some (.bl i) := rfl
theorem deref_tI' (cs : List Ob) (k : Nat) (ns : List Int) : deref cs (k + 2) (.tup (nums ns)) = some (.tup (nums ns)) := by
  rw [deref]
  rw [derefL_nums (d := Mi.deref cs (k + 1)) fun _ => rfl]; rfl
@[simp] theorem deref_tI (cs : List Ob) (ns : List Int) : deref cs deep (.tup (nums ns)) = some (.tup (nums ns)) := deref_tI' cs 4 ns
@[simp] theorem deref_lst (cs : List Ob) (ns : List Int) : deref cs deep (.lst (nums ns)) = some (.lst (nums ns)) := by
  show deref cs (5 + 1) _ = _
  rw [deref]
  rw [derefL_nums (d := Mi.deref cs 5) fun _ => rfl]; rfl
@[simp] theorem deref_new (cs : List Ob) (ns : List Int) : deref cs deep (.new (nums ns)) = some (.lst (nums ns)) := by
  show deref cs (5 + 1) _ = _
  rw [deref]
  rw [derefL_nums (d := Mi.deref cs 5) fun _ => rfl]; rfl
theorem deref_cell {cs : List Ob} {n : Nat} {ns : List Int} (h : cellL cs n = some (nums ns)) : deref cs deep (.ref n) = some (.lst (nums ns)) := by
  show deref cs (5 + 1) _ = _
  rw [deref]
  simp only [h]
  rw [derefL_nums (d := Mi.deref cs 5) fun _ => rfl]; rfl
@[simp] theorem flat_nums (k : Nat) (ns : List Int) : (nums ns).all (flat (k + 1)) = true := by
  simp [nums, List.all_eq_true, flat]
@[simp] theorem flat_nums' (ns : List Int) : (nums ns).all (flat deep) = true := flat_nums 5 ns
@[simp] theorem handed_int (cs : List Ob) (i : Int) : handed cs (.int i) = some (.int i) := rfl
@[simp] theorem handed_bl (cs : List Ob) (i : Bool) : handed cs (.bl i) = some (.bl i) := rfl
@[simp] theorem handed_non (cs : List Ob) : handed cs .non = some .non := rfl
@[simp] theorem handed_tI (cs : List Ob) (ns : List Int) : handed cs (.tup (nums ns)) = some (.tup (nums ns)) := by
  simp only [handed]
  rw [if_pos]
  show (nums ns).all (flat 5) = true
  exact flat_nums 4 ns
@[simp] theorem handed_new (cs : List Ob) (ns : List Int) : handed cs (.new (nums ns)) = some (.new (nums ns)) := by
  simp [handed]
theorem handed_cell {cs : List Ob} {n : Nat} {ns : List Int} (h : cellL cs n = some (nums ns)) : handed cs (.ref n) = some (.new (nums ns)) := by
  simp [handed, h]
@[simp] theorem intsW_nums : ∀ (ns : List Int), intsW (nums ns) = some ns
  | [] => rfl
  | n :: ns => by rw [nums_cons, intsW, intsW_nums ns]; rfl
@[simp] theorem blsW_map : ∀ (bs : List Bool), blsW (bs.map W.bl) = some bs
  | [] => rfl
  | b :: bs => by rw [List.map_cons, blsW, blsW_map bs]; rfl
@[simp] theorem items_tup (cs : List Ob) (xs : List W) : items cs (.tup xs) = some xs := rfl
@[simp] theorem items_lst (cs : List Ob) (xs : List W) : items cs (.lst xs) = some xs := rfl
@[simp] theorem items_new (cs : List Ob) (xs : List W) : items cs (.new xs) = some xs := rfl
theorem range_nums (lo : Int) (n : Nat) : rangeI lo n = nums ((List.range n).map fun (i : Nat) => lo + (i : Int)) := by
  simp [rangeI, nums, Function.comp_def]
end Ev
end S_EvLib

section S_EvLib2
set_option Elab.async false
set_option linter.all false
/-! EvLib2: steps by simp. -/
namespace Ev
open Mi
variable {O : Orc}
@[simp] theorem ev_var {i : Nat} {ρ : ME} {cs : List Ob} : ev O ρ (.var i) cs = (match ρ[i]? with
  | some (some w) => .ok w cs
  | _ => .bad) := by rw [ev] <;> rfl
@[simp] theorem ev_non {ρ : ME} {cs : List Ob} : ev O ρ .non cs = .ok .non cs := by rw [ev]
@[simp] theorem ev_bl {b : Bool} {ρ : ME} {cs : List Ob} : ev O ρ (.bl b) cs = .ok (.bl b) cs := by rw [ev]
@[simp] theorem ev_int {i : Int} {ρ : ME} {cs : List Ob} : ev O ρ (.int i) cs = .ok (.int i) cs := by rw [ev]
@[simp] theorem ev_glob {x : PySem.Str} {ρ : ME} {cs : List Ob} : ev O ρ (.glob x) cs = ofO (O.glob x) cs := by rw [ev]
@[simp] theorem ev_bin {op : Bop} {a b : Ex} {ρ : ME} {cs : List Ob} : ev O ρ (.bin op a b) cs = (ev O ρ a cs).bind fun x cs => (ev O ρ b cs).bind fun y cs => bop op x y cs := by rw [ev]
@[simp] theorem ev_neg {a : Ex} {ρ : ME} {cs : List Ob} : ev O ρ (.neg a) cs = (ev O ρ a cs).bind fun x cs => (match x with
  | .int i => .ok (.int (-i)) cs
  | _ => .bad) := by rw [ev] <;> rfl
@[simp] theorem ev_not {a : Ex} {ρ : ME} {cs : List Ob} : ev O ρ (.not a) cs = (ev O ρ a cs).bind fun x cs => (match truth cs x with
  | some b => .ok (.bl (!b)) cs
  | none => .bad) := by rw [ev] <;> rfl
@[simp] theorem ev_and {a b : Ex} {ρ : ME} {cs : List Ob} : ev O ρ (.and a b) cs = (ev O ρ a cs).bind fun x cs => (match x with
  | .bl true => ev O ρ b cs
  | .bl false => .ok (.bl false) cs
  | _ => .bad) := by rw [ev] <;> rfl
@[simp] theorem ev_or {a b : Ex} {ρ : ME} {cs : List Ob} : ev O ρ (.or a b) cs = (ev O ρ a cs).bind fun x cs => (match x with
  | .bl true => .ok (.bl true) cs
  | .bl false => ev O ρ b cs
  | _ => .bad) := by rw [ev] <;> rfl
@[simp] theorem ev_cmp {op : Cop} {a b : Ex} {ρ : ME} {cs : List Ob} : ev O ρ (.cmp op a b) cs = (ev O ρ a cs).bind fun x cs => (ev O ρ b cs).bind fun y cs => (match cop op x y cs with
  | some k => .ok (.bl k) cs
  | none => .bad) := by rw [ev] <;> rfl
@[simp] theorem ev_chain {o1 o2 : Cop} {a b c : Ex} {ρ : ME} {cs : List Ob} : ev O ρ (.chain o1 o2 a b c) cs = (ev O ρ a cs).bind fun x cs => (ev O ρ b cs).bind fun y cs => (match cop o1 x y cs with
  | some true => (ev O ρ c cs).bind fun z cs => (match cop o2 y z cs with
    | some k => .ok (.bl k) cs
    | none => .bad)
  | some false => .ok (.bl false) cs
  | none => .bad) := by rw [ev] <;> rfl
@[simp] theorem ev_ifx {c a b : Ex} {ρ : ME} {cs : List Ob} : ev O ρ (.ifx c a b) cs = (ev O ρ c cs).bind fun x cs => (match truth cs x with
  | some true => ev O ρ a cs
  | some false => ev O ρ b cs
  | none => .bad) := by rw [ev] <;> rfl
@[simp] theorem ev_callP {f : Nat} {es : Exs} {ρ : ME} {cs : List Ob} : ev O ρ (.callP f es) cs = (evs O ρ es cs).bind fun ws cs => callP O f ws cs := by rw [ev]
@[simp] theorem ev_callPK {f : Nat} {es : Exs} {pm : List Nat} {ρ : ME} {cs : List Ob} : ev O ρ (.callPK f es pm) cs = (evs O ρ es cs).bind fun ws cs => callP O f (permute ws pm) cs := by rw [ev]
@[simp] theorem ev_callH {f : Nat} {es : Exs} {ρ : ME} {cs : List Ob} : ev O ρ (.callH f es) cs = (evs O ρ es cs).bind fun ws cs => O.call f ws cs := by rw [ev]
@[simp] theorem ev_blt {b : Blt} {es : Exs} {ρ : ME} {cs : List Ob} : ev O ρ (.blt b es) cs = (evs O ρ es cs).bind fun ws cs => blt b ws cs := by rw [ev]
@[simp] theorem ev_listI {a b : Ex} {ρ : ME} {cs : List Ob} : ev O ρ (.listI a b) cs = (ev O ρ a cs).bind fun x cs => (ev O ρ b cs).bind fun y cs => (match rangeW x y with
  | some xs => .ok (.new xs) cs
  | none => .bad) := by rw [ev] <;> rfl
@[simp] theorem ev_listJ {a : Ex} {ρ : ME} {cs : List Ob} : ev O ρ (.listJ a) cs = (ev O ρ a cs).bind fun x cs => (match rangeW (.int 0) x with
  | some xs => .ok (.new xs) cs
  | none => .bad) := by rw [ev] <;> rfl
@[simp] theorem ev_listR {a : Ex} {ρ : ME} {cs : List Ob} : ev O ρ (.listR a) cs = (ev O ρ a cs).bind fun x cs => (match itemsL cs x with
  | some xs => .ok (.new xs.reverse) cs
  | none => .bad) := by rw [ev] <;> rfl
@[simp] theorem ev_sortS {a : Ex} {ρ : ME} {cs : List Ob} : ev O ρ (.sortS a) cs = (ev O ρ a cs).bind fun x cs => (match (itemsL cs x).bind intsW with
  | some ns => if ns.length < 64 then .ok (.new ((sortI (onceI ns)).map .int)) cs else .bad
  | none => .bad) := by rw [ev] <;> rfl
@[simp] theorem ev_meth {m : Mth} {o : Ex} {es : Exs} {ρ : ME} {cs : List Ob} : ev O ρ (.meth m o es) cs = (ev O ρ o cs).bind fun x cs => if isCell cs x then (evs O ρ es cs).bind fun ws cs => meth m x ws cs else .bad := by rw [ev]
@[simp] theorem ev_isi {a : Ex} {t : Ty} {ρ : ME} {cs : List Ob} : ev O ρ (.isi a t) cs = (ev O ρ a cs).bind fun x cs => (match isiW t x cs with
  | some k => .ok (.bl k) cs
  | none => .bad) := by rw [ev] <;> rfl
@[simp] theorem ev_sub {a i : Ex} {ρ : ME} {cs : List Ob} : ev O ρ (.sub a i) cs = (ev O ρ a cs).bind fun x cs => (ev O ρ i cs).bind fun y cs => ofO (subW x y cs) cs := by rw [ev]
@[simp] theorem ev_slice {a : Ex} {lo hi : OEx} {ρ : ME} {cs : List Ob} : ev O ρ (.slice a lo hi) cs = (ev O ρ a cs).bind fun x cs => (evO O ρ lo cs).bind fun l cs => (evO O ρ hi cs).bind fun h cs => sliceW x l h cs := by rw [ev]
@[simp] theorem ev_list {es : Exs} {ρ : ME} {cs : List Ob} : ev O ρ (.list es) cs = (evs O ρ es cs).bind fun ws cs => mkNew ws cs := by rw [ev]
@[simp] theorem ev_tuple {es : Exs} {ρ : ME} {cs : List Ob} : ev O ρ (.tuple es) cs = (evs O ρ es cs).bind fun ws cs => mkTup ws cs := by rw [ev]
@[simp] theorem ev_cel {e : Ex} {ρ : ME} {cs : List Ob} : ev O ρ (.cel e) cs = (ev O ρ e cs).bind fun x cs => (match x with
  | .new xs => .ok (.ref cs.length) (cs ++ [.lst xs])
  | x => .ok x cs) := by rw [ev] <;> rfl
@[simp] theorem evs_nil {ρ : ME} {cs : List Ob} : evs O ρ .nil cs = .ok [] cs := by rw [evs]
@[simp] theorem evs_cons {e : Ex} {es : Exs} {ρ : ME} {cs : List Ob} : evs O ρ (.cons e es) cs = (ev O ρ e cs).bind fun x cs => (evs O ρ es cs).bind fun xs cs => .ok (fz x :: xs) cs := by rw [evs]
@[simp] theorem evO_none {ρ : ME} {cs : List Ob} : evO O ρ .none cs = .ok none cs := by rw [evO]
@[simp] theorem evO_some {e : Ex} {ρ : ME} {cs : List Ob} : evO O ρ (.some e) cs = (ev O ρ e cs).bind fun x cs => (match x with
  | .int i => .ok (some i) cs
  | _ => .bad) := by rw [evO] <;> rfl
@[simp] theorem evI_ex {e : Ex} {ρ : ME} {cs : List Ob} : evI O ρ (.ex e) cs = (ev O ρ e cs).bind fun x cs => ofO (srcOf cs x) cs := by rw [evI]
@[simp] theorem evI_range {a : Ex} {ρ : ME} {cs : List Ob} : evI O ρ (.range a) cs = (ev O ρ a cs).bind fun x cs => (match rangeW (.int 0) x with
  | some xs => .ok (.im xs) cs
  | none => .bad) := by rw [evI] <;> rfl
@[simp] theorem evI_range2 {a b : Ex} {ρ : ME} {cs : List Ob} : evI O ρ (.range2 a b) cs = (ev O ρ a cs).bind fun x cs => (ev O ρ b cs).bind fun y cs => (match rangeW x y with
  | some xs => .ok (.im xs) cs
  | none => .bad) := by rw [evI] <;> rfl
@[simp] theorem evI_enum {e : Ex} {ρ : ME} {cs : List Ob} : evI O ρ (.enum e) cs = (ev O ρ e cs).bind fun x cs => (match stillW x with
  | some (_, xs) => .ok (.im (enumW 0 xs)) cs
  | none => .bad) := by rw [evI] <;> rfl
@[simp] theorem evI_rev {e : Ex} {ρ : ME} {cs : List Ob} : evI O ρ (.rev e) cs = (ev O ρ e cs).bind fun x cs => (match stillW x with
  | some (_, xs) => .ok (.im xs.reverse) cs
  | none => .bad) := by rw [evI] <;> rfl
@[simp] theorem fz_non  : fz (.non) = .non := by rfl
@[simp] theorem fz_bl (b : Bool) : fz (.bl b) = .bl b := by rfl
@[simp] theorem fz_int (i : Int) : fz (.int i) = .int i := by rfl
@[simp] theorem fz_tup (xs : List W) : fz (.tup xs) = .tup xs := by rfl
@[simp] theorem fz_lst (xs : List W) : fz (.lst xs) = .lst xs := by rfl
@[simp] theorem fz_ref (n : Nat) : fz (.ref n) = .ref n := by rfl
@[simp] theorem fz_scr (xs : List W) : fz (.scr xs) = .scr xs := by rfl
@[simp] theorem fz_new (xs : List W) : fz (.new xs) = .lst xs := by rfl
@[simp] theorem truth_bl (b : Bool) (cs : List Ob) : truth cs (.bl b) = some b := by rfl
@[simp] theorem put_nm {i : Nat} {w : W} {ρ : ME} : put (.nm i) w ρ = some (ρ.set i (some w)) := by rfl
@[simp] theorem put_tp {is : List Nat} {ws : List W} {ρ : ME} : put (.tp is) (.tup ws) ρ = putS is ws ρ := by rfl
@[simp] theorem putS_nil {ρ : ME} : putS [] [] ρ = some ρ := by rfl
@[simp] theorem putS_cons {i : Nat} {is : List Nat} {w : W} {ws : List W} {ρ : ME} : putS (i :: is) (w :: ws) ρ = putS is ws (ρ.set i (some w)) := by rfl
@[simp] theorem wipe_nil {ρ : ME} : wipe ρ [] = ρ := by rfl
@[simp] theorem wipe_cons {i : Nat} {is : List Nat} {ρ : ME} : wipe ρ (i :: is) = (wipe ρ is).set i none := by rfl
@[simp] theorem itemsL_new (cs : List Ob) (xs : List W) : itemsL cs (.new xs) = some xs := by rfl
@[simp] theorem itemsL_lst (cs : List Ob) (xs : List W) : itemsL cs (.lst xs) = some xs := by rfl
@[simp] theorem itemsL_ref (cs : List Ob) (n : Nat) : itemsL cs (.ref n) = cellL cs n := by rfl
@[simp] theorem items_ref (cs : List Ob) (n : Nat) : items cs (.ref n) = cellL cs n := by rfl
@[simp] theorem items_scr (cs : List Ob) (xs : List W) : items cs (.scr xs) = some xs := by rfl
@[simp] theorem srcOf_tup (cs : List Ob) (xs : List W) : srcOf cs (.tup xs) = some (.im xs) := by rfl
@[simp] theorem srcOf_lst (cs : List Ob) (xs : List W) : srcOf cs (.lst xs) = some (.im xs) := by rfl
@[simp] theorem srcOf_new (cs : List Ob) (xs : List W) : srcOf cs (.new xs) = some (.im xs) := by rfl
@[simp] theorem stillW_tup (xs : List W) : stillW (.tup xs) = some (true, xs) := by rfl
@[simp] theorem isCell_ref (cs : List Ob) (n : Nat) : isCell cs (.ref n) = (cellL cs n).isSome := by rfl
@[simp] theorem isi_int (cs : List Ob) (i : Int) : isiW .int (.int i) cs = some true := by rfl
@[simp] theorem isi_bool (cs : List Ob) (i : Int) : isiW .bool (.int i) cs = some false := by rfl
@[simp] theorem isi_str (cs : List Ob) (i : Int) : isiW .str (.int i) cs = some false := by rfl
@[simp] theorem isi_tuple (cs : List Ob) (i : Int) : isiW .tuple (.int i) cs = some false := by rfl
@[simp] theorem isi_tup_int (cs : List Ob) (xs : List W) : isiW .int (.tup xs) cs = some false := by rfl
@[simp] theorem isi_tup_bool (cs : List Ob) (xs : List W) : isiW .bool (.tup xs) cs = some false := by rfl
@[simp] theorem isi_tup_str (cs : List Ob) (xs : List W) : isiW .str (.tup xs) cs = some false := by rfl
@[simp] theorem isi_tup_tuple (cs : List Ob) (xs : List W) : isiW .tuple (.tup xs) cs = some true := by rfl
@[simp] theorem isN_int (cs : List Ob) (i : Int) : cop .isN (.int i) .non cs = some false := by rfl
@[simp] theorem isN_tup (cs : List Ob) (xs : List W) : cop .isN (.tup xs) .non cs = some false := by rfl
@[simp] theorem isN_non (cs : List Ob) : cop .isN .non .non cs = some true := by rfl
@[simp] theorem blt_len_tup (cs : List Ob) (xs : List W) : blt .len [.tup xs] cs = .ok (.int xs.length) cs := by rfl
@[simp] theorem blt_len_lst (cs : List Ob) (xs : List W) : blt .len [.lst xs] cs = .ok (.int xs.length) cs := by rfl
@[simp] theorem blt_int (cs : List Ob) (i : Int) : blt .int [.int i] cs = .ok (.int i) cs := by rfl
@[simp] theorem blt_tuple_tup (cs : List Ob) (xs : List W) : blt .tuple [.tup xs] cs = mkTup xs cs := by rfl
@[simp] theorem blt_tuple_lst (cs : List Ob) (xs : List W) : blt .tuple [.lst xs] cs = mkTup xs cs := by rfl
@[simp] theorem blt_list_lst (cs : List Ob) (xs : List W) : blt .list [.lst xs] cs = mkNew xs cs := by rfl
@[simp] theorem blt_min2 (cs : List Ob) (i j : Int) : blt .min2 [.int i, .int j] cs = .ok (.int (if j < i then j else i)) cs := by rfl
theorem blt_len_ref {cs : List Ob} {n : Nat} {xs : List W} (h : cellL cs n = some xs) : blt .len [.ref n] cs = .ok (.int xs.length) cs := by
  simp only [blt, items, h]
theorem blt_tuple_ref {cs : List Ob} {n : Nat} {xs : List W} (h : cellL cs n = some xs) : blt .tuple [.ref n] cs = mkTup xs cs := by
  simp only [blt, items, h]
theorem blt_any {cs : List Ob} {bs : List Bool} : blt .any [.lst (bs.map W.bl)] cs = .ok (.bl (bs.any id)) cs := by
  simp [blt, itemsL]
theorem blt_all {cs : List Ob} {bs : List Bool} : blt .all [.lst (bs.map W.bl)] cs = .ok (.bl (bs.all id)) cs := by
  simp [blt, itemsL]
theorem eqW_int (a b : Int) : eqW (.int a) (.int b) = (a == b) := by rw [eqW]
@[simp] theorem cop_eq_int (a b : Int) (cs : List Ob) : cop .eq (.int a) (.int b) cs = some (a == b) := by
  show (if (okW deep (.int a) && okW deep (.int b)) = true then some (eqW (.int a) (.int b)) else none) = _
  rw [eqW_int]; rfl
@[simp] theorem cop_ne_int (a b : Int) (cs : List Ob) : cop .ne (.int a) (.int b) cs = some (!(a == b)) := by
  show (if (okW deep (.int a) && okW deep (.int b)) = true then some (!eqW (.int a) (.int b)) else none) = _
  rw [eqW_int]; rfl
@[simp] theorem cop_lt_int (a b : Int) (cs : List Ob) : cop .lt (.int a) (.int b) cs = some (decide (a < b)) := rfl
@[simp] theorem cop_le_int (a b : Int) (cs : List Ob) : cop .le (.int a) (.int b) cs = some (decide (a ≤ b)) := rfl
@[simp] theorem cop_gt_int (a b : Int) (cs : List Ob) : cop .gt (.int a) (.int b) cs = some (decide (b < a)) := rfl
@[simp] theorem cop_ge_int (a b : Int) (cs : List Ob) : cop .ge (.int a) (.int b) cs = some (decide (b ≤ a)) := rfl
@[simp] theorem bop_add (a b : Int) (cs : List Ob) : bop .add (.int a) (.int b) cs = .ok (.int (a + b)) cs := rfl
@[simp] theorem bop_sub (a b : Int) (cs : List Ob) : bop .sub (.int a) (.int b) cs = .ok (.int (a - b)) cs := rfl
theorem bop_mul {a b : Int} {cs : List Ob} (h : (-big < a ∧ a < big) ∨ (-big < b ∧ b < big)) : bop .mul (.int a) (.int b) cs = .ok (.int (a * b)) cs := by
  have e : mulOk a b = true := by
    unfold mulOk
    rcases h with ⟨h1, h2⟩ | ⟨h1, h2⟩
    · rw [decide_eq_true h1, decide_eq_true h2]; rfl
    · rw [decide_eq_true h1, decide_eq_true h2]; simp
  simp [bop, bopI, e]
theorem bop_mod {a b : Int} {cs : List Ob} (h : 0 < b) : bop .mod (.int a) (.int b) cs = .ok (.int (a % b)) cs := by
  simp [bop, bopI, h]
theorem bop_fdiv {a b : Int} {cs : List Ob} (h : 0 < b) (h2 : b < 1073741824) : bop .fdiv (.int a) (.int b) cs = .ok (.int (a / b)) cs := by
  simp [bop, bopI, h, h2]
theorem rangeW_eq {a b : Int} (h1 : okR a = true) (h2 : okR b = true) : rangeW (.int a) (.int b) = some (rangeI a (b - a).toNat) := by
  simp [rangeW, h1, h2]
theorem okR_of {a : Int} (h : -1000000 < a) (h2 : a < 1000000) : okR a = true := by
  simp [okR, h, h2]
theorem mkNew_ok {xs : List W} {cs : List Ob} (h : xs.length ≤ 100000) : mkNew xs cs = .ok (.new xs) cs := by
  rw [mkNew, if_pos (show xs.length ≤ lim from h)]
theorem mkTup_ok {xs : List W} {cs : List Ob} (h : xs.length ≤ 100000) : mkTup xs cs = .ok (.tup xs) cs := by
  rw [mkTup, if_pos (show xs.length ≤ lim from h)]
/-! ### comprehensions -/
/-- without a test, without change of a cell -/
theorem ev_map {elt : Ex} {t : Tg} {it : It} {own : List Nat} {ρ : ME} {cs : List Ob} {xs : List W} (f : W → W) (hi : evI O ρ it cs = .ok (.im xs) cs) (hl : xs.length ≤ 100000)
    (h : ∀ x ∈ xs, ∃ ρ' y, put t (fz x) (wipe ρ own) = some ρ' ∧ ev O ρ' elt cs = .ok y cs ∧ fz y = f x) : ev O ρ (.comp elt t it .none own) cs = .ok (.new (xs.map f)) cs := by
  rw [ev, hi, bind_ok, compS, compGo_map (f := fun x => some (f x))]
  · rw [bind_ok, List.filterMap_eq_map', mkNew_ok (by simpa using hl)]
  · intro x hx
    obtain ⟨ρ', y, e1, e2, e3⟩ := h x hx
    simp only [e1, evC, bind_ok, if_true, e2, e3, noX_ok]
/-- with a test, the name itself -/
theorem ev_filter {elt c : Ex} {t : Tg} {it : It} {own : List Nat} {ρ : ME} {cs : List Ob} {xs : List W} (f : W → Bool) (hi : evI O ρ it cs = .ok (.im xs) cs) (hl : xs.length ≤ 100000)
    (h : ∀ x ∈ xs, ∃ ρ', put t (fz x) (wipe ρ own) = some ρ' ∧ ev O ρ' c cs = .ok (.bl (f x)) cs ∧ ev O ρ' elt cs = .ok x cs ∧ fz x = x) : ev O ρ (.comp elt t it (.some c) own) cs = .ok (.new (xs.filter f)) cs := by
  have e0 : xs.filterMap (fun x => if f x then some x else none) = xs.filter f := by
    rw [← List.filterMap_eq_filter]; rfl
  rw [ev, hi, bind_ok, compS, compGo_map (f := fun x => if f x then some x else none)]
  · rw [bind_ok, e0, mkNew_ok (Nat.le_trans (List.length_filter_le ..) hl)]
  · intro x hx
    obtain ⟨ρ', e1, e2, e3, e4⟩ := h x hx
    rw [e4] at e1
    simp only [e1, evC, bind_ok, e2, e3, e4, truth, ofO_some]
    cases f x <;> rfl
theorem sat_setI {o i e : Ex} {ρ : ME} {cs : List Ob} {Q : Fl → List Ob → Prop}
    (h : Sat (ev O ρ e cs) fun v cs1 => Sat (ev O ρ o cs1) fun x cs2 => Sat (ev O ρ i cs2) fun y cs3 => ∃ cs4, setIdx x y (fz v) cs3 = some cs4 ∧ Q (.nx ρ) cs4) : Sat (run O (.setI o i e) ρ cs) Q := by
  rw [run]
  refine h.bind fun v cs1 h1 => h1.bind fun x cs2 h2 => h2.bind fun y cs3 h3 => ?_
  obtain ⟨cs4, e4, q⟩ := h3
  rw [e4]
  exact .ok q
theorem place_nat {n j : Nat} (h : j < n) : place n (j : Int) = some j := by
  rw [place, if_pos (by omega), if_pos (by omega)]; rfl
theorem at_nat {L : List Int} {j : Nat} (h : j < L.length) : at? (nums L) (j : Int) = some (.int (L.getD j 0)) := by
  rw [at?, nums_len, place_nat h]
  show (nums L)[j]? = _
  rw [nums_get, List.getElem?_eq_getElem h, List.getD_eq_getElem?_getD, List.getElem?_eq_getElem h]; rfl
theorem nums_set (L : List Int) (j : Nat) (v : Int) : (nums L).set j (.int v) = nums (L.set j v) := by
  simp [nums, List.map_set]
theorem setIdx_nat {cs : List Ob} {n j : Nat} {L : List Int} {v : Int} (hc : cellL cs n = some (nums L)) (h : j < L.length) : setIdx (.ref n) (.int (j : Int)) (.int v) cs = some (cs.set n (.lst (nums (L.set j v)))) := by
  simp only [setIdx, hc, nums_len, place_nat h, nums_set]
theorem bop_rep {w : W} {n : Nat} {cs : List Ob} (h : n ≤ 100000) : bop .mul (.new [w]) (.int (n : Int)) cs = .ok (.new (List.replicate n w)) cs := by
  show (if ((n : Int) < 1000000 ∧ -1000000 < (n : Int)) then mkNew (List.replicate (n : Int).toNat [w]).flatten cs else .bad) = _
  rw [if_pos (by omega)]
  have e : (List.replicate (n : Int).toNat [w]).flatten = List.replicate n w := by
    rw [Int.toNat_natCast]
    clear h
    induction n with
    | zero => rfl
    | succ n ih => rw [List.replicate_succ, List.flatten_cons, ih]; rfl
  rw [e, mkNew_ok (by simpa using h)]
/-! ### step by step through a body -/
def drop : Nat → Ss → Ss
  | 0, b => b
  | _ + 1, .nil => .nil
  | n + 1, .cons _ b => drop n b
theorem step (b : Ss) (n : Nat) {s : S} (e : drop n b = .cons s (drop (n + 1) b)) {ρ : ME} {cs : List Ob} {Q : Fl → List Ob → Prop} (M : ME → List Ob → Prop)
    (h : Sat (run O s ρ cs) fun fl cs1 => ∃ ρ1, fl = .nx ρ1 ∧ M ρ1 cs1) (k : ∀ ρ1 cs1, M ρ1 cs1 → Sat (runs O (drop (n + 1) b) ρ1 cs1) Q) : Sat (runs O (drop n b) ρ cs) Q := by
  rw [e]
  exact sat_go M h k
theorem step' (b : Ss) (n : Nat) {s : S} (e : drop n b = .cons s (drop (n + 1) b)) {ρ : ME} {cs : List Ob} {Q : Fl → List Ob → Prop}
    (h : Sat (run O s ρ cs) fun fl cs1 => match fl with
      | .nx ρ1 => Sat (runs O (drop (n + 1) b) ρ1 cs1) Q
      | fl => Q fl cs1) : Sat (runs O (drop n b) ρ cs) Q := by
  rw [e]
  exact sat_cons h
/-- a set that leaves the cells -/
theorem step_set (b : Ss) (n : Nat) {i : Nat} {x : Ex} (e : drop n b = .cons (.set i x) (drop (n + 1) b)) {ρ : ME} {cs : List Ob} {Q : Fl → List Ob → Prop} (w : W) {cs1 : List Ob}
    (h : ev O ρ x cs = .ok w cs1) (k : Sat (runs O (drop (n + 1) b) (ρ.set i (some (fz w))) cs1) Q) : Sat (runs O (drop n b) ρ cs) Q := by
  rw [e]
  exact sat_cons (sat_set (sat_of h k))
end Ev
end S_EvLib2

section S_EvCells
set_option Elab.async false
set_option linter.all false
/-! EvCells: cells that change. -/
namespace Ev
open Mi
variable {O : Orc}
theorem sat_bind {α β : Type} {r : R α} {f : α → List Ob → R β} {Q : β → List Ob → Prop} : Sat (r.bind f) Q = Sat r (fun a cs => Sat (f a cs) Q) := by
  cases r with
  | ok a cs => rw [bind_ok, sat_ok]
  | exn x cs =>
      refine propext ⟨fun h => ?_, fun h => ?_⟩
      · obtain ⟨_, _, e, _⟩ := h.ex; cases e
      · obtain ⟨_, _, e, _⟩ := h.ex; cases e
  | bad =>
      refine propext ⟨fun h => ?_, fun h => ?_⟩
      · obtain ⟨_, _, e, _⟩ := h.ex; cases e
      · obtain ⟨_, _, e, _⟩ := h.ex; cases e
theorem cellL_same {cs : List Ob} {n : Nat} {xs : List W} (h : n < cs.length) : cellL (cs.set n (.lst xs)) n = some xs := by
  simp [cellL, List.getElem?_set, h]
theorem cellL_other {cs : List Ob} {n m : Nat} {o : Ob} (h : n ≠ m) : cellL (cs.set n o) m = cellL cs m := by
  simp [cellL, List.getElem?_set, h]
theorem cellL_lt {cs : List Ob} {n : Nat} {xs : List W} (h : cellL cs n = some xs) : n < cs.length := by
  unfold cellL at h
  apply Classical.byContradiction
  intro hn
  rw [List.getElem?_eq_none (by omega)] at h
  exact nomatch h
theorem cellL_app {cs : List Ob} {o : List Ob} {n : Nat} (h : n < cs.length) : cellL (cs ++ o) n = cellL cs n := by
  simp [cellL, List.getElem?_append, h]
theorem cellL_end {cs : List Ob} {xs : List W} : cellL (cs ++ [.lst xs]) cs.length = some xs := by
  simp [cellL]
theorem cellL_of {cs cs1 : List Ob} {n : Nat} (h : cs1[n]? = cs[n]?) : cellL cs1 n = cellL cs n := by
  simp [cellL, h]
theorem meth_append {cs : List Ob} {n : Nat} {xs : List W} {w : W} (h : cellL cs n = some xs) (hl : xs.length < 100000) : meth .append (.ref n) [w] cs = .ok .non (cs.set n (.lst (xs ++ [w]))) := by
  simp only [meth, h]
  rw [if_pos (show xs.length < lim from hl)]
theorem meth_pop {cs : List Ob} {n : Nat} {xs : List W} {w : W} (h : cellL cs n = some (xs ++ [w])) : meth .pop (.ref n) [] cs = .ok w (cs.set n (.lst xs)) := by
  simp [meth, h]
theorem meth_popAt {cs : List Ob} {n i : Nat} {xs : List W} {w : W} (h : cellL cs n = some xs) (hi : xs[i]? = some w) : meth .popAt (.ref n) [.int (i : Int)] cs = .ok w (cs.set n (.lst (xs.eraseIdx i))) := by
  have hl : i < xs.length := by
    apply Classical.byContradiction
    intro hn
    rw [List.getElem?_eq_none (by omega)] at hi
    exact nomatch hi
  simp only [meth, h, place_nat hl, hi]
theorem setIdx_last {cs : List Ob} {n : Nat} {xs : List W} {w v : W} (h : cellL cs n = some (xs ++ [w])) : setIdx (.ref n) (.int (-1)) v cs = some (cs.set n (.lst (xs ++ [v]))) := by
  have e : place (xs ++ [w]).length (-1) = some xs.length := by
    have : (xs ++ [w]).length = xs.length + 1 := by simp
    rw [this, place, if_neg (by omega), if_pos (by omega)]
    congr 1
    omega
  simp only [setIdx, h, e]
  simp
theorem at_end {xs : List W} {x : W} : at? (xs ++ [x]) (-1) = some x := by
  have e : place (xs ++ [x]).length (-1) = some xs.length := by
    have : (xs ++ [x]).length = xs.length + 1 := by simp
    rw [this, place, if_neg (by omega), if_pos (by omega)]
    congr 1
    omega
  rw [at?, e]
  show (xs ++ [x])[xs.length]? = some x
  simp
theorem snoc_or {α : Type} (l : List α) : l = [] ∨ ∃ m a, l = m ++ [a] := by
  rcases l.eq_nil_or_concat with e | ⟨m, a, e⟩
  · exact .inl e
  · exact .inr ⟨m, a, by rw [e, List.concat_eq_append]⟩
theorem nums_snoc (L : List Int) (a : Int) : nums (L ++ [a]) = nums L ++ [.int a] := by simp [nums]
/-! the draws' source -/
abbrev mo : Int := 18446744073709551557
/-- cell 2 is the source, cell 1 its great numbers -/
def Sr (cs : List Ob) : Prop := ∃ (st ct : Int) (L : List Int), cellL cs 2 = some [.int st, .int ct, .ref 1] ∧ cellL cs 1 = some (nums L) ∧ 0 ≤ st ∧ st < mo
/-- no other cell is changed -/
def Kp (cs cs1 : List Ob) : Prop := cs1.length = cs.length ∧ ∀ i, i ≠ 1 → i ≠ 2 → cs1[i]? = cs[i]?
theorem Kp.rfl' {cs : List Ob} : Kp cs cs := ⟨rfl, fun _ _ _ => rfl⟩
theorem Kp.trans {a b c : List Ob} (h : Kp a b) (k : Kp b c) : Kp a c := ⟨k.1.trans h.1, fun i h1 h2 => (k.2 i h1 h2).trans (h.2 i h1 h2)⟩
theorem Kp.set1 {cs cs1 : List Ob} {o : Ob} (h : Kp cs cs1) : Kp cs (cs1.set 1 o) := ⟨by rw [List.length_set]; exact h.1, fun i h1 h2 => by rw [List.getElem?_set, if_neg (Ne.symm h1)]; exact h.2 i h1 h2⟩
theorem Kp.set2 {cs cs1 : List Ob} {o : Ob} (h : Kp cs cs1) : Kp cs (cs1.set 2 o) := ⟨by rw [List.length_set]; exact h.1, fun i h1 h2 => by rw [List.getElem?_set, if_neg (Ne.symm h2)]; exact h.2 i h1 h2⟩
theorem Kp.cell {cs cs1 : List Ob} (h : Kp cs cs1) {n : Nat} (h1 : n ≠ 1) (h2 : n ≠ 2) : cellL cs1 n = cellL cs n := cellL_of (h.2 n h1 h2)
end Ev
end S_EvCells

section S_EvDraw
set_option Elab.async false
set_option linter.all false
set_option maxRecDepth 100000
/-! EvDraw: the script's numbers and draws of them. -/
namespace Ev
open Mi
variable {O : Orc}
def b_source : Mi.Ss := (.cons (.set 1 (.int 88172645463325252)) (.cons (.set 2 (.cel (.list .nil))) (.cons (.for (.nm 3) (.ex (.slice (.var 0) .none (.some (.int 63)))) (.cons (.set 1 (.bin .mod (.bin .add (.bin .add (.bin .mul (.var 1) (.var 1)) (.bin .mod (.blt .int (.cons (.var 3) .nil)) (.int 18446744073709551557))) (.int 7046029254386353131)) (.int 18446744073709551557))) (.cons (.ife (.cmp .ge (.var 3) (.bin .pow (.int 10) (.int 18))) (.cons (.ex (.meth .append (.var 2) (.cons (.var 3) .nil))) .nil) .nil) .nil))) (.cons (.ret (.list (.cons (.var 1) (.cons (.int 0) (.cons (.cel (.listR (.var 2))) .nil))))) .nil))))
def b_draw : Mi.Ss := (.cons (.set 2 (.cel (.sub (.var 0) (.int 2)))) (.cons (.ife (.and (.cmp .gt (.blt .len (.cons (.var 2) .nil)) (.int 0)) (.cmp .eq (.sub (.var 2) (.neg (.int 1))) (.int 0))) (.cons (.ex (.meth .pop (.var 2) .nil)) .nil) .nil) (.cons (.ife (.cmp .gt (.blt .len (.cons (.var 2) .nil)) (.int 0)) (.cons (.set 3 (.bin .mod (.blt .int (.cons (.sub (.var 2) (.neg (.int 1))) .nil)) (.var 1))) (.cons (.setI (.var 2) (.neg (.int 1)) (.bin .fdiv (.sub (.var 2) (.neg (.int 1))) (.var 1))) (.cons (.ret (.var 3)) .nil))) .nil) (.cons (.setI (.var 0) (.int 1) (.bin .add (.sub (.var 0) (.int 1)) (.int 1))) (.cons (.setI (.var 0) (.int 0) (.bin .mod (.bin .add (.bin .add (.bin .mul (.sub (.var 0) (.int 0)) (.sub (.var 0) (.int 0))) (.bin .mul (.sub (.var 0) (.int 1)) (.int 7046029254386353131))) (.int 1)) (.int 18446744073709551557))) (.cons (.ret (.bin .mod (.blt .int (.cons (.bin .fdiv (.sub (.var 0) (.int 0)) (.int 65536)) .nil)) (.var 1))) .nil))))))
theorem mo_big {st : Int} (h : 0 ≤ st) (h2 : st < mo) : -big < st ∧ st < big := by
  unfold mo at h2
  unfold big
  omega
theorem sat_draw {cs : List Ob} {n : Int} (h : Sr cs) (h1 : 0 < n) (h2 : n < 1073741824) : Sat (runs O b_draw [some (.ref 2), some (.int n), none, none] cs) fun fl cs1 => ∃ v : Int, fl = .ret (.int v) ∧ 0 ≤ v ∧ v < n ∧ Sr cs1 ∧ Kp cs cs1 := by
  obtain ⟨st, ct, L, c2, c1, s0, s1⟩ := h
  refine sat_cons (sat_set ?_)
  have a0 : at? [.int st, .int ct, .ref 1] 0 = some (.int st) := rfl
  have a1 : at? [.int st, .int ct, .ref 1] 1 = some (.int ct) := rfl
  have a2 : at? [.int st, .int ct, .ref 1] 2 = some (.ref 1) := rfl
  simp only [ev_cel, ev_sub, ev_var, ev_int, List.getElem?_cons_succ, List.getElem?_cons_zero, bind_ok, subW, items_ref, c2, a2, ofO_some, sat_ok, List.set_cons_succ, List.set_cons_zero, fz_ref]
  refine sat_go (fun ρ1 cs1 => ρ1 = [some (.ref 2), some (.int n), some (.ref 1), none] ∧ Kp cs cs1 ∧ cellL cs1 2 = some [.int st, .int ct, .ref 1] ∧ ∃ L, cellL cs1 1 = some (nums L)) ?_ ?_
  · refine sat_if ?_
    simp only [ev_and, ev_cmp, ev_blt, evs_cons, evs_nil, ev_int, ev_var, List.getElem?_cons_succ, List.getElem?_cons_zero, bind_ok, fz_ref, blt_len_ref c1, nums_len, cop_gt_int]
    rcases snoc_or L with rfl | ⟨N, a, rfl⟩
    · simp only [List.length_nil, Int.natCast_zero, Int.lt_irrefl, decide_false, sat_ok]
      exact sat_nil ⟨_, rfl, rfl, Kp.rfl', c2, _, c1⟩
    · have e2 : decide ((0 : Int) < ((N ++ [a]).length : Nat)) = true := by simp
      rw [nums_snoc] at c1
      simp only [e2, ev_sub, ev_neg, ev_int, bind_ok, ev_var, List.getElem?_cons_succ, List.getElem?_cons_zero, subW, items_ref, c1, at_end, ofO_some, cop_eq_int, sat_ok]
      by_cases ha : a = 0
      · subst ha
        simp only [beq_self_eq_true]
        refine sat_cons (sat_ex ?_)
        simp only [ev_meth, ev_var, List.getElem?_cons_succ, List.getElem?_cons_zero, bind_ok, isCell_ref, c1, Option.isSome_some, if_true, evs_nil, meth_pop c1, sat_ok]
        exact sat_nil ⟨_, rfl, rfl, Kp.rfl'.set1, by rw [cellL_other (by decide)]; exact c2, N, cellL_same (cellL_lt c1)⟩
      · have : (a == 0) = false := by simpa using ha
        simp only [this]
        rw [← nums_snoc] at c1
        exact sat_nil ⟨_, rfl, rfl, Kp.rfl', c2, _, c1⟩
  · rintro ρ1 cs1 ⟨rfl, kp, c2, L, c1⟩
    refine sat_cons (sat_if ?_)
    simp only [ev_cmp, ev_blt, evs_cons, evs_nil, ev_int, ev_var, List.getElem?_cons_succ, List.getElem?_cons_zero, bind_ok, fz_ref, blt_len_ref c1, nums_len, cop_gt_int, sat_ok]
    rcases snoc_or L with rfl | ⟨N, a, rfl⟩
    · simp only [List.length_nil, Int.natCast_zero, Int.lt_irrefl, decide_false]
      refine sat_nil ?_
      refine sat_cons (sat_setI ?_)
      have b1 : setIdx (.ref 2) (.int 1) (.int (ct + 1)) cs1 = some (cs1.set 2 (.lst [.int st, .int (ct + 1), .ref 1])) := by
        simp only [setIdx, c2]; rfl
      simp only [ev_bin, ev_sub, ev_int, ev_var, List.getElem?_cons_succ, List.getElem?_cons_zero, bind_ok, subW, items_ref, c2, a1, ofO_some, bop_add, sat_ok, fz_int]
      refine ⟨_, b1, ?_⟩
      have l2 := cellL_lt c2
      have c3 : cellL (cs1.set 2 (.lst [.int st, .int (ct + 1), .ref 1])) 2 = some [.int st, .int (ct + 1), .ref 1] := cellL_same l2
      generalize hX : cs1.set 2 (.lst [.int st, .int (ct + 1), .ref 1]) = X at c3 ⊢
      have kX : Kp cs X := hX ▸ kp.set2
      have dX : cellL X 1 = some (nums []) := by rw [← hX, cellL_other (by decide)]; exact c1
      have a0 : at? [.int st, .int (ct + 1), .ref 1] 0 = some (.int st) := rfl
      have a1 : at? [.int st, .int (ct + 1), .ref 1] 1 = some (.int (ct + 1)) := rfl
      refine sat_cons (sat_setI ?_)
      have b2 : ∀ v, setIdx (.ref 2) (.int 0) (.int v) X = some (X.set 2 (.lst [.int v, .int (ct + 1), .ref 1])) := by
        intro v
        simp only [setIdx, c3]; rfl
      simp only [ev_bin, ev_sub, ev_int, ev_var, List.getElem?_cons_succ, List.getElem?_cons_zero, bind_ok, subW, items_ref, c3, a0, a1, ofO_some, bop_mul (.inl (mo_big s0 s1)), bop_mul (a := ct + 1) (b := 7046029254386353131) (.inr (by unfold big; decide)), bop_add, bop_mod (show (0 : Int) < 18446744073709551557 by decide), sat_ok, fz_int]
      refine ⟨_, b2 _, ?_⟩
      have m0 : 0 ≤ (st * st + (ct + 1) * 7046029254386353131 + 1) % 18446744073709551557 := Int.emod_nonneg _ (by decide)
      have m1 : (st * st + (ct + 1) * 7046029254386353131 + 1) % 18446744073709551557 < mo := Int.emod_lt_of_pos _ (by decide)
      generalize (st * st + (ct + 1) * 7046029254386353131 + 1) % 18446744073709551557 = v at m0 m1 ⊢
      have c4 : cellL (X.set 2 (.lst [.int v, .int (ct + 1), .ref 1])) 2 = some [.int v, .int (ct + 1), .ref 1] := cellL_same (cellL_lt c3)
      have a0 : at? [.int v, .int (ct + 1), .ref 1] 0 = some (.int v) := rfl
      refine sat_cons (sat_ret ?_)
      simp only [ev_bin, ev_blt, evs_cons, evs_nil, ev_sub, ev_int, ev_var, List.getElem?_cons_succ, List.getElem?_cons_zero, bind_ok, subW, items_ref, c4, a0, ofO_some, bop_fdiv (show (0 : Int) < 65536 by decide) (show (65536 : Int) < 1073741824 by decide), fz_int, blt_int, bop_mod h1, sat_ok]
      exact ⟨_, rfl, Int.emod_nonneg _ (by omega), Int.emod_lt_of_pos _ h1, ⟨v, ct + 1, [], c4, by rw [cellL_other (by decide)]; exact dX, m0, m1⟩, kX.set2⟩
    · have e2 : decide ((0 : Int) < ((N ++ [a]).length : Nat)) = true := by simp
      rw [nums_snoc] at c1
      simp only [e2]
      refine sat_cons (sat_set ?_)
      simp only [ev_bin, ev_blt, evs_cons, evs_nil, ev_sub, ev_neg, ev_int, bind_ok, ev_var, List.getElem?_cons_succ, List.getElem?_cons_zero, subW, items_ref, c1, at_end, ofO_some, fz_int, blt_int, bop_mod h1, sat_ok, List.set_cons_succ, List.set_cons_zero]
      refine sat_cons (sat_setI ?_)
      simp only [ev_bin, ev_blt, evs_cons, evs_nil, ev_sub, ev_neg, ev_int, bind_ok, ev_var, List.getElem?_cons_succ, List.getElem?_cons_zero, subW, items_ref, c1, at_end, ofO_some, fz_int, bop_fdiv h1 h2, sat_ok]
      refine ⟨_, setIdx_last c1, sat_cons (sat_ret ?_)⟩
      simp only [ev_var, List.getElem?_cons_succ, List.getElem?_cons_zero, sat_ok]
      exact ⟨_, rfl, Int.emod_nonneg _ (by omega), Int.emod_lt_of_pos _ h1, ⟨st, ct, N ++ [a / n], by rw [cellL_other (by decide)]; exact c2, by rw [nums_snoc]; exact cellL_same (cellL_lt c1), s0, s1⟩, kp.set1⟩
theorem sat_source {ns : List Int} (hl : ns.length ≤ 63) : Sat (runs O b_source [some (.scr (nums ns)), none, none, none] []) fun fl cs1 => ∃ (st : Int) (A B : List W) (L : List Int), fl = .ret (.new [.int st, .int 0, .ref 1]) ∧ cs1 = [.lst A, .lst (nums L)] ∧ 0 ≤ st ∧ st < mo := by
  refine sat_cons (sat_set ?_)
  simp only [ev_int, sat_ok, List.set_cons_succ, List.set_cons_zero, fz_int]
  refine sat_cons (sat_set ?_)
  simp only [ev_cel, ev_list, evs_nil, bind_ok]
  rw [mkNew_ok (by simp)]
  simp only [bind_ok, sat_ok, List.set_cons_succ, List.set_cons_zero, List.nil_append, List.length_nil, fz_ref]
  refine sat_cons ?_
  have e0 : ∀ v : W, sliceW (.scr (nums ns)) none (some 63) [.lst []] = .ok (.new (nums ns)) [.lst []] := by
    intro v
    show mkNew (cut (nums ns) none (some 63)) [.lst []] = _
    have : cut (nums ns) none (some 63) = nums ns := by
      show ((nums ns).drop 0).take (min 63 (nums ns).length - 0) = _
      rw [nums_len, List.drop_zero, Nat.sub_zero, List.take_of_length_le]
      rw [nums_len]; omega
    rw [this]
    exact mkNew_ok (by rw [nums_len]; omega)
  refine sat_for (xs := nums ns) (by simp only [evI_ex, ev_slice, evO_none, evO_some, ev_int, ev_var, List.getElem?_cons_succ, List.getElem?_cons_zero, bind_ok, e0 .non, srcOf_new, ofO_some]) (I := fun R ρ cs => ∃ (M L : List Int) (st : Int) (o : Option W), R = nums M ∧ 0 ≤ st ∧ st < mo ∧ L.length + M.length ≤ 63 ∧ cs = [.lst (nums L)] ∧ ρ = [some (.scr (nums ns)), some (.int st), some (.ref 0), o]) ?_ ?_ ?_
  · exact ⟨ns, [], _, none, rfl, by decide, by decide, by simpa using hl, rfl, rfl⟩
  · rintro y R ρ cs ⟨M, L, st, o, hR, s0, s1, hM, rfl, rfl⟩
    cases M with
    | nil => exact nomatch hR
    | cons c M =>
        rw [nums_cons] at hR
        cases hR
        rw [List.length_cons] at hM
        simp only [fz_int, put_nm, List.set_cons_succ, List.set_cons_zero]
        refine sat_cons (sat_set ?_)
        simp only [ev_bin, ev_blt, evs_cons, evs_nil, ev_int, ev_var, List.getElem?_cons_succ, List.getElem?_cons_zero, bind_ok, fz_int, blt_int, bop_mul (.inl (mo_big s0 s1)), bop_add, bop_mod (show (0 : Int) < 18446744073709551557 by decide), sat_ok, List.set_cons_succ, List.set_cons_zero]
        have m0 : 0 ≤ (st * st + c % 18446744073709551557 + 7046029254386353131) % 18446744073709551557 := Int.emod_nonneg _ (by decide)
        have m1 : (st * st + c % 18446744073709551557 + 7046029254386353131) % 18446744073709551557 < mo := Int.emod_lt_of_pos _ (by decide)
        generalize (st * st + c % 18446744073709551557 + 7046029254386353131) % 18446744073709551557 = v at m0 m1 ⊢
        refine sat_cons (sat_if ?_)
        have ep : ∀ cs : List Ob, bop .pow (.int 10) (.int 18) cs = .ok (.int 1000000000000000000) cs := fun cs => by rfl
        simp only [ev_cmp, ev_bin, ev_int, ev_var, List.getElem?_cons_succ, List.getElem?_cons_zero, bind_ok, ep, cop_ge_int, sat_ok]
        cases decide ((1000000000000000000 : Int) ≤ c) with
        | true =>
            refine sat_cons (sat_ex ?_)
            have e1 := meth_append (cs := [.lst (nums L)]) (n := 0) (xs := nums L) (w := .int c) rfl (by rw [nums_len]; omega)
            simp only [ev_meth, ev_var, List.getElem?_cons_succ, List.getElem?_cons_zero, bind_ok, isCell_ref, show cellL [.lst (nums L)] 0 = some (nums L) from rfl, Option.isSome_some, if_true, evs_cons, evs_nil, fz_int, e1, sat_ok]
            refine sat_nil (sat_nil ⟨M, L ++ [c], v, _, rfl, m0, m1, by simp; omega, ?_, rfl⟩)
            rw [nums_snoc]; rfl
        | false =>
            refine sat_nil (sat_nil ⟨M, L, v, _, rfl, m0, m1, by omega, rfl, rfl⟩)
  · rintro ρ cs ⟨M, L, st, o, hR, s0, s1, hM, rfl, rfl⟩
    refine sat_cons (sat_ret ?_)
    have e1 : mkNew [.int st, .int 0, .ref 1] [.lst (nums L), .lst (nums L).reverse] = .ok (.new [.int st, .int 0, .ref 1]) [.lst (nums L), .lst (nums L).reverse] := mkNew_ok (by simp)
    simp only [ev_list, evs_cons, evs_nil, ev_cel, ev_listR, ev_int, ev_var, List.getElem?_cons_succ, List.getElem?_cons_zero, bind_ok, fz_int, itemsL_ref, show cellL [.lst (nums L)] 0 = some (nums L) from rfl, List.length_cons, List.length_nil, fz_ref, List.cons_append, List.nil_append, Nat.zero_add, e1, sat_ok]
    exact ⟨st, nums L, [], L.reverse, rfl, by rw [show nums L.reverse = (nums L).reverse by simp [nums]], s0, s1⟩
end Ev
end S_EvDraw

section S_EvLib3
set_option Elab.async false
set_option linter.all false
set_option maxRecDepth 100000
/-! EvLib3: a law's defs, nested data, exceptions, the laws' _law_same. -/
namespace Ev
open Mi
/-- the defs of a law -/
structure Ctx where
  ds : List Mi.Def
  g : PySem.Str → Option W
  fu : Nat
abbrev Ctx.C (X : Ctx) (k : Nat) : Nat → List W → List Ob → R W := Mi.calls X.ds X.g X.fu k
abbrev Ctx.O (X : Ctx) (k : Nat) : Orc := ⟨X.C k, X.g, X.fu⟩
theorem Ctx.run {X : Ctx} {k n : Nat} {d : Mi.Def} {ws : List W} {cs : List Ob} (h : X.ds[n]? = some d) : X.C (k + 1) n ws cs = d.run (X.O k) ws cs := by
  show Mi.calls X.ds X.g X.fu (k + 1) n ws cs = _
  rw [Mi.calls, h]
/-- a pure call's answer -/
def Ctx.P (X : Ctx) (k n : Nat) (vs : List W) (v : W) : Prop := Sat (X.C k n vs []) fun w c1 => handed c1 w = some v
theorem Ctx.P.call {X : Ctx} {k n : Nat} {ws vs : List W} {v : W} {cs : List Ob} (h : X.P k n vs v) (hd : derefL (deref cs deep) ws = some vs) : callP (X.O k) n ws cs = .ok v cs := by
  obtain ⟨w, c1, e, q⟩ := h.ex
  exact callP_eq hd e q
theorem Ctx.P_of {X : Ctx} {k n : Nat} {d : Mi.Def} {vs : List W} {v : W} (h : X.ds[n]? = some d) (hl : vs.length = d.pars)
    (r : Sat (runs (X.O k) d.body (entry d vs) []) fun fl cs1 => match fl with
      | .nx _ => v = .non
      | .ret w => handed cs1 w = some v
      | _ => False) : X.P (k + 1) n vs v := by
  unfold Ctx.P
  rw [Ctx.run h]
  refine sat_def hl (r.mono fun fl cs1 z => ?_)
  cases fl with
  | nx ρ => simp only at z ⊢; subst z; rfl
  | ret w => exact z
  | bk ρ => exact z
  | ct ρ => exact z
theorem Ctx.sat_of {X : Ctx} {k n : Nat} {d : Mi.Def} {vs : List W} {cs : List Ob} {Q : W → List Ob → Prop} (h : X.ds[n]? = some d) (hl : vs.length = d.pars)
    (r : Sat (runs (X.O k) d.body (entry d vs) cs) fun fl cs1 => match fl with
      | .nx _ => Q .non cs1
      | .ret w => Q w cs1
      | _ => False) : Sat (X.C (k + 1) n vs cs) Q := by
  rw [Ctx.run h]
  exact sat_def hl r
/-! ### exceptions -/
variable {O : Orc}
@[simp] theorem bind_exn {α β : Type} (x : Xn) (cs : List Ob) (f : α → List Ob → R β) : (R.exn x cs).bind f = .exn x cs := by rw [R.bind]
theorem runs_exn {s : S} {ss : Ss} {ρ : ME} {cs cs1 : List Ob} {x : Xn} (h : run O s ρ cs = .exn x cs1) : runs O (.cons s ss) ρ cs = .exn x cs1 := by rw [runs, h, bind_exn]
theorem runs_nx {s : S} {ss : Ss} {ρ ρ1 : ME} {cs cs1 : List Ob} (h : run O s ρ cs = .ok (.nx ρ1) cs1) : runs O (.cons s ss) ρ cs = runs O ss ρ1 cs1 := by rw [runs, h, bind_ok]
theorem run_ift {c : Ex} {t e : Ss} {ρ : ME} {cs cs1 : List Ob} (h : ev O ρ c cs = .ok (.bl true) cs1) : run O (.ife c t e) ρ cs = runs O t ρ cs1 := by rw [run, test, h]; simp
theorem run_iff {c : Ex} {t e : Ss} {ρ : ME} {cs cs1 : List Ob} (h : ev O ρ c cs = .ok (.bl false) cs1) : run O (.ife c t e) ρ cs = runs O e ρ cs1 := by rw [run, test, h]; simp
theorem run_ex_exn {e : Ex} {ρ : ME} {cs cs1 : List Ob} {x : Xn} (h : ev O ρ e cs = .exn x cs1) : run O (.ex e) ρ cs = .exn x cs1 := by rw [run, h, bind_exn]
theorem run_ret_exn {e : Ex} {ρ : ME} {cs cs1 : List Ob} {x : Xn} (h : ev O ρ e cs = .exn x cs1) : run O (.ret e) ρ cs = .exn x cs1 := by rw [run, h, bind_exn]
theorem run_set_exn {i : Nat} {e : Ex} {ρ : ME} {cs cs1 : List Ob} {x : Xn} (h : ev O ρ e cs = .exn x cs1) : run O (.set i e) ρ cs = .exn x cs1 := by rw [run, h, bind_exn]
theorem run_raise {c : Nat} {f : PySem.Str} {e : Ex} {ρ : ME} {cs cs1 : List Ob} {w : W} (h : ev O ρ e cs = .ok w cs1) : run O (.raise c f e) ρ cs = .exn ⟨c, [(f, fz w)]⟩ cs1 := by rw [run, h, bind_ok]
theorem callP_exn {f : Nat} {ws vs : List W} {cs c1 : List Ob} {x : Xn} (h1 : derefL (deref cs deep) ws = some vs) (h2 : O.call f vs [] = .exn x c1) (h3 : flatX x = true) :
    callP O f ws cs = .exn x cs := by
  rw [callP, h1]
  simp only [h2, h3, if_true]
theorem def_exn {d : Def} {ws : List W} {cs cs1 : List Ob} {x : Xn} (hl : ws.length = d.pars) (h : runs O d.body (entry d ws) cs = .exn x cs1) : d.run O ws cs = .exn x cs1 := by
  rw [Def.run, if_pos hl, h, bind_exn]
theorem Ctx.exn_of {X : Ctx} {k n : Nat} {d : Mi.Def} {vs : List W} {cs cs1 : List Ob} {x : Xn} (h : X.ds[n]? = some d) (hl : vs.length = d.pars)
    (r : runs (X.O k) d.body (entry d vs) cs = .exn x cs1) : X.C (k + 1) n vs cs = .exn x cs1 := by
  rw [Ctx.run h]
  exact def_exn hl r
theorem sat_try_ok {wr al ms : List Nat} {b : Ss} {i : Nat} {h : Hss} {ρ : ME} {cs : List Ob} {Q : Fl → List Ob → Prop} (q : Sat (runs O b ρ cs) Q) : Sat (run O (.tryA wr b al ms i h) ρ cs) Q := by
  obtain ⟨fl, cs1, e, z⟩ := q.ex
  rw [run, e]
  exact .ok z
theorem sat_try_exn {wr al ms : List Nat} {b : Ss} {i : Nat} {h : Hss} {ρ : ME} {cs cs1 : List Ob} {Q : Fl → List Ob → Prop} {x : Xn} {w : W} (q : runs O b ρ cs = .exn x cs1)
    (h1 : al.contains x.cls = true) (h2 : i < ρ.length) (h3 : ms.contains x.cls = true) (h4 : hssE x ((wipe ρ wr).set i none) h = some (some w)) (z : Q (.ret w) cs1) : Sat (run O (.tryA wr b al ms i h) ρ cs) Q := by
  rw [run, q]
  simp only [h1, h2, h3, h4, decide_true, Bool.and_self, if_true]
  exact .ok z
/-! ### more constructs -/
@[simp] theorem ev_str {s : PySem.Str} {ρ : ME} {cs : List Ob} : ev O ρ (.str s) cs = .ok (.str s) cs := by rw [ev]
@[simp] theorem ev_callHK {f : Nat} {es : Exs} {pm : List Nat} {ρ : ME} {cs : List Ob} : ev O ρ (.callHK f es pm) cs = (evs O ρ es cs).bind fun ws cs => O.call f (permute ws pm) cs := by rw [ev]
@[simp] theorem fz_str (s : PySem.Str) : fz (.str s) = .str s := by rfl
@[simp] theorem fz_fz (w : W) : fz (fz w) = fz w := by cases w <;> rfl
theorem sat_set' {i : Nat} {e : Ex} {ρ : ME} {cs cs1 : List Ob} {w : W} {Q : Fl → List Ob → Prop} (h : ev O ρ e cs = .ok w cs1) (q : Q (.nx (ρ.set i (some (fz w)))) cs1) : Sat (run O (.set i e) ρ cs) Q := sat_set (Ev.sat_of h q)
theorem sat_ret' {e : Ex} {ρ : ME} {cs cs1 : List Ob} {w : W} {Q : Fl → List Ob → Prop} (h : ev O ρ e cs = .ok w cs1) (q : Q (.ret w) cs1) : Sat (run O (.ret e) ρ cs) Q := sat_ret (Ev.sat_of h q)
theorem sat_par {i j : Nat} {a b : Ex} {ρ : ME} {cs : List Ob} {Q : Fl → List Ob → Prop}
    (h : Sat (ev O ρ a cs) fun x cs1 => Sat (ev O ρ b cs1) fun y cs2 => Q (.nx ((ρ.set i (some (fz x))).set j (some (fz y)))) cs2) : Sat (run O (.par i j a b) ρ cs) Q := by
  rw [run]
  exact h.bind fun x cs1 z => z.bind fun y cs2 z2 => .ok z2
theorem derefL_cons' {d : W → Option W} {w v : W} {ws vs : List W} (h : d w = some v) (h2 : derefL d ws = some vs) : derefL d (w :: ws) = some (v :: vs) := by rw [derefL, h, h2]
theorem derefL_nil' {d : W → Option W} : derefL d [] = some [] := by rw [derefL]
theorem derefL_self {d : W → Option W} : ∀ {xs : List W}, (∀ x ∈ xs, d x = some x) → derefL d xs = some xs
  | [], _ => derefL_nil'
  | x :: xs, h => derefL_cons' (h x (List.mem_cons_self ..)) (derefL_self fun y hy => h y (List.mem_cons_of_mem _ hy))
/-! ### nested data -/
def gd : Nat → W → Bool
  | 0, _ => false
  | k + 1, w => (match w with
    | .str s => s.cps.all (· < 1114112)
    | .tup xs => decide (xs.length ≤ 99999) && xs.all (gd k)
    | .lst xs => decide (xs.length ≤ 99999) && xs.all (gd k)
    | .non => true
    | .bl _ => true
    | .int _ => true
    | _ => false)
theorem gd_mono : ∀ {k j : Nat} {w : W}, k ≤ j → gd k w = true → gd j w = true
  | 0, _, _, _, h => nomatch h
  | k + 1, 0, _, h, _ => by omega
  | k + 1, j + 1, w, h, g => by
      cases w with
      | tup xs =>
          simp only [gd, Bool.and_eq_true, List.all_eq_true] at g ⊢
          exact ⟨g.1, fun x hx => gd_mono (by omega) (g.2 x hx)⟩
      | lst xs =>
          simp only [gd, Bool.and_eq_true, List.all_eq_true] at g ⊢
          exact ⟨g.1, fun x hx => gd_mono (by omega) (g.2 x hx)⟩
      | _ => exact g
theorem deref_gd : ∀ {k : Nat} {w : W} {cs : List Ob}, gd k w = true → deref cs k w = some w
  | 0, _, _, h => nomatch h
  | k + 1, w, cs, h => by
      cases w with
      | tup xs =>
          simp only [gd, Bool.and_eq_true, List.all_eq_true] at h
          rw [deref, derefL_self fun x hx => deref_gd (h.2 x hx)]
          rfl
      | lst xs =>
          simp only [gd, Bool.and_eq_true, List.all_eq_true] at h
          rw [deref, derefL_self fun x hx => deref_gd (h.2 x hx)]
          rfl
      | new xs => exact nomatch h
      | ref n => exact nomatch h
      | scr xs => exact nomatch h
      | _ => rw [deref] <;> intros <;> contradiction
theorem gd_fz {k : Nat} {w : W} (h : gd k w = true) : fz w = w := by
  cases k with
  | zero => exact nomatch h
  | succ k =>
      cases w with
      | new xs => exact nomatch h
      | _ => rfl
theorem gd_str (k : Nat) (s : String) : gd (k + 1) (.str (PySem.Str.ofString s)) = true := by
  show (PySem.Str.ofString s).cps.all (· < 1114112) = true
  rw [PySem.Str.ofString_eq_toList]
  simp only [List.all_toArray, List.all_map, List.all_eq_true, Function.comp, decide_eq_true_eq]
  intro c hc
  have h := c.valid
  simp only [UInt32.isValidChar, Nat.isValidChar] at h
  show c.val.toNat < 1114112
  omega
theorem gd_int (k : Nat) (i : Int) : gd (k + 1) (.int i) = true := rfl
theorem gd_tup {k : Nat} {xs : List W} (hl : xs.length ≤ 99999) (h : ∀ x ∈ xs, gd k x = true) : gd (k + 1) (.tup xs) = true := by
  simp only [gd, Bool.and_eq_true, List.all_eq_true, decide_eq_true_eq]
  exact ⟨hl, h⟩
theorem gd_lst {k : Nat} {xs : List W} (hl : xs.length ≤ 99999) (h : ∀ x ∈ xs, gd k x = true) : gd (k + 1) (.lst xs) = true := by
  simp only [gd, Bool.and_eq_true, List.all_eq_true, decide_eq_true_eq]
  exact ⟨hl, h⟩
theorem gd_mem {k : Nat} {xs : List W} (h : gd (k + 1) (.tup xs) = true) : ∀ x ∈ xs, gd k x = true := by
  simp only [gd, Bool.and_eq_true, List.all_eq_true, decide_eq_true_eq] at h
  exact h.2
theorem gd_len {k : Nat} {xs : List W} (h : gd (k + 1) (.tup xs) = true) : xs.length ≤ 99999 := by
  simp only [gd, Bool.and_eq_true, List.all_eq_true, decide_eq_true_eq] at h
  exact h.1
theorem gd_nums {k : Nat} {L : List Int} : ∀ x ∈ nums L, gd (k + 1) x = true := by
  intro x hx
  simp only [nums, List.mem_map] at hx
  obtain ⟨i, _, rfl⟩ := hx
  rfl
theorem gd_tI {k : Nat} {L : List Int} (hl : L.length ≤ 99999) : gd (k + 2) (tI L) = true := gd_tup (by simpa using hl) gd_nums
theorem flat_gd : ∀ {k : Nat} {w : W} {cs : List Ob}, flat k w = true → deref cs k w = some w
  | 0, _, _, h => nomatch h
  | k + 1, w, cs, h => by
      cases w with
      | tup xs =>
          simp only [flat, List.all_eq_true] at h
          rw [deref, derefL_self fun x hx => flat_gd (h x hx)]
          rfl
      | lst xs => exact nomatch h
      | new xs => exact nomatch h
      | ref n => exact nomatch h
      | scr xs => exact nomatch h
      | _ => rw [deref] <;> intros <;> contradiction
theorem flat_mono : ∀ {k j : Nat} {w : W}, k ≤ j → flat k w = true → flat j w = true
  | 0, _, _, _, h => nomatch h
  | k + 1, 0, _, h, _ => by omega
  | k + 1, j + 1, w, h, g => by
      cases w with
      | tup xs =>
          simp only [flat, List.all_eq_true] at g ⊢
          exact fun x hx => flat_mono (by omega) (g x hx)
      | _ => exact g
theorem flat_tup {k : Nat} {xs : List W} (h : ∀ x ∈ xs, flat k x = true) : flat (k + 1) (.tup xs) = true := by
  simp only [flat, List.all_eq_true]
  exact h
theorem flat_tI {k : Nat} {L : List Int} : flat (k + 2) (tI L) = true := flat_tup (List.all_eq_true.mp (flat_nums k L))
theorem handed_flat {cs : List Ob} {w : W} (h : flat deep w = true) : handed cs w = some w := by
  cases w with
  | new xs => exact nomatch h
  | ref n => exact nomatch h
  | _ => unfold handed; simp only [h, if_true]
theorem okW_gd : ∀ {k : Nat} {w : W}, gd k w = true → okW k w = true
  | 0, _, h => nomatch h
  | k + 1, w, h => by
      cases w with
      | tup xs =>
          simp only [gd, Bool.and_eq_true, List.all_eq_true] at h
          simp only [okW, List.all_eq_true]
          exact fun x hx => okW_gd (h.2 x hx)
      | lst xs =>
          simp only [gd, Bool.and_eq_true, List.all_eq_true] at h
          simp only [okW, List.all_eq_true]
          exact fun x hx => okW_gd (h.2 x hx)
      | new xs => exact nomatch h
      | ref n => exact nomatch h
      | scr xs => exact nomatch h
      | str s => exact h
      | _ => rfl
/-! ### loops by places -/
theorem drop_cons {α : Type} {xs : List α} {j : Nat} {x : α} {R : List α} (h : x :: R = xs.drop j) : xs[j]? = some x ∧ R = xs.drop (j + 1) := by
  have e : (xs.drop j)[0]? = some x := by rw [← h]; rfl
  rw [List.getElem?_drop] at e
  refine ⟨e, ?_⟩
  have := congrArg List.tail h
  rw [List.tail_drop] at this
  exact this
theorem sat_for_ix {t : Tg} {it : It} {b : Ss} {ρ : ME} {cs : List Ob} {Q : Fl → List Ob → Prop} {xs : List W} (he : evI O ρ it cs = .ok (.im xs) cs) (I : Nat → ME → List Ob → Prop)
    (i : I 0 ρ cs)
    (h : ∀ j x ρ cs, xs[j]? = some x → I j ρ cs → Sat (match put t (fz x) ρ with | some ρ' => runs O b ρ' cs | none => .bad) fun fl cs1 => match fl with
      | .nx ρ1 => I (j + 1) ρ1 cs1
      | .ct ρ1 => I (j + 1) ρ1 cs1
      | .bk ρ1 => Q (.nx ρ1) cs1
      | .ret w => Q (.ret w) cs1)
    (d : ∀ ρ cs, I xs.length ρ cs → Q (.nx ρ) cs) : Sat (run O (.for t it b) ρ cs) Q := by
  refine sat_for he (fun R ρ cs => ∃ j, R = xs.drop j ∧ j ≤ xs.length ∧ I j ρ cs) ⟨0, rfl, Nat.zero_le _, i⟩ ?_ ?_
  · rintro x R ρ cs ⟨j, e, hj, z⟩
    obtain ⟨e1, e2⟩ := drop_cons e
    have hlt : j < xs.length := (List.getElem?_eq_some_iff.mp e1).1
    refine (h j x ρ cs e1 z).mono fun fl cs1 q => ?_
    cases fl with
    | nx ρ1 => exact ⟨j + 1, e2, hlt, q⟩
    | ct ρ1 => exact ⟨j + 1, e2, hlt, q⟩
    | bk ρ1 => exact q
    | ret w => exact q
  · rintro ρ cs ⟨j, e, hj, z⟩
    have : j = xs.length := by
      have := congrArg List.length e
      rw [List.length_nil, List.length_drop] at this
      omega
    subst this
    exact d _ _ z
theorem rangeI_get {lo : Int} {n j : Nat} {x : W} (h : (rangeI lo n)[j]? = some x) : j < n ∧ x = .int (lo + (j : Int)) := by
  unfold rangeI at h
  rw [List.getElem?_map] at h
  obtain ⟨i, h1, rfl⟩ := Option.map_eq_some_iff.mp h
  obtain ⟨h2, h3⟩ := List.getElem?_eq_some_iff.mp h1
  rw [List.length_range] at h2
  rw [List.getElem_range] at h3
  subst h3
  exact ⟨h2, rfl⟩
theorem rangeI_mem {lo : Int} {n : Nat} {x : W} (h : x ∈ rangeI lo n) : ∃ i : Nat, i < n ∧ x = .int (lo + i) := by
  simp only [rangeI, List.mem_map, List.mem_range] at h
  obtain ⟨i, h1, h2⟩ := h
  exact ⟨i, h1, h2.symm⟩
@[simp] theorem rangeI_len (lo : Int) (n : Nat) : (rangeI lo n).length = n := by simp [rangeI]
/-- range(n) of a number -/
theorem rangeW_n {n : Nat} (h : n ≤ 99999) : rangeW (.int 0) (.int (n : Int)) = some (rangeI 0 n) := by
  rw [rangeW_eq rfl (okR_of (by omega) (by omega)), Int.sub_zero, Int.toNat_natCast]
/-- a comprehension that leaves the cells -/
theorem ev_comp {elt : Ex} {t : Tg} {it : It} {c : OEx} {own : List Nat} {ρ : ME} {cs : List Ob} {xs : List W} (f : W → Option W) (hi : evI O ρ it cs = .ok (.im xs) cs) (hl : xs.length ≤ 99999)
    (h : ∀ x ∈ xs, ∃ ρ', put t (fz x) (wipe ρ own) = some ρ' ∧ ((evC O ρ' c cs).bind fun b cs => if b then (ev O ρ' elt cs).bind fun y cs => .ok (some (fz y)) cs else .ok none cs) = .ok (f x) cs) : ev O ρ (.comp elt t it c own) cs = .ok (.new (xs.filterMap f)) cs := by
  rw [ev, hi, bind_ok, compS, compGo_map (f := f)]
  · rw [bind_ok, mkNew_ok (Nat.le_trans (List.length_filterMap_le _ _) (by omega))]
  · intro x hx
    obtain ⟨ρ', e1, e2⟩ := h x hx
    simp only [e1]
    rw [e2, noX_ok]
@[simp] theorem evC_none {ρ : ME} {cs : List Ob} : evC O ρ .none cs = .ok true cs := by rw [evC]
@[simp] theorem evC_some {e : Ex} {ρ : ME} {cs : List Ob} : evC O ρ (.some e) cs = (ev O ρ e cs).bind fun x cs => ofO (truth cs x) cs := by rw [evC]
/-- a comprehension that changes cells -/
theorem sat_comp_ix {elt : Ex} {t : Tg} {it : It} {c : OEx} {own : List Nat} {ρ : ME} {cs cs0 : List Ob} {Q : W → List Ob → Prop} {xs : List W} (he : evI O ρ it cs0 = .ok (.im xs) cs) (I : Nat → List W → List Ob → Prop) (hl : xs.length ≤ 99999)
    (i : I 0 [] cs)
    (h : ∀ j x ys cs, xs[j]? = some x → I j ys cs → Sat (match put t (fz x) (wipe ρ own) with
      | some ρ' => ((evC O ρ' c cs).bind fun b cs => if b then (ev O ρ' elt cs).bind fun y cs => .ok (some (fz y)) cs else .ok none cs).noX
      | none => .bad) fun o cs1 => I (j + 1) (ys ++ o.toList) cs1)
    (d : ∀ ys cs, I xs.length ys cs → ys.length ≤ xs.length → Q (.new ys) cs) : Sat (ev O ρ (.comp elt t it c own) cs0) Q := by
  rw [ev, he, bind_ok, compS]
  have q : Sat (compGo (fun x cs => (match put t (fz x) (wipe ρ own) with
      | some ρ' => ((evC O ρ' c cs).bind fun b cs => if b then (ev O ρ' elt cs).bind fun y cs => .ok (some (fz y)) cs else .ok none cs).noX
      | none => .bad)) xs cs) fun ys cs1 => I xs.length ys cs1 ∧ ys.length ≤ xs.length := by
    refine sat_compGo (I := fun R ys cs => ∃ j, R = xs.drop j ∧ j ≤ xs.length ∧ ys.length ≤ j ∧ I j ys cs) ?_ xs [] cs ⟨0, rfl, Nat.zero_le _, Nat.le_refl _, i⟩ ?_
    · rintro x R ys cs ⟨j, e, hj, hy, z⟩
      obtain ⟨e1, e2⟩ := drop_cons e
      have hlt : j < xs.length := (List.getElem?_eq_some_iff.mp e1).1
      refine (h j x ys cs e1 z).mono fun o cs1 q => ⟨j + 1, e2, hlt, ?_, q⟩
      cases o <;> simp <;> omega
    · rintro zs cs1 ⟨j, e, hj, hy, z⟩
      have : j = xs.length := by
        have := congrArg List.length e
        rw [List.length_nil, List.length_drop] at this
        omega
      subst this
      exact ⟨z, hy⟩
  refine q.bind fun ys cs1 ⟨z1, z2⟩ => ?_
  rw [mkNew_ok (by omega)]
  exact .ok (d _ _ z1 z2)
theorem Sat.noX {α : Type} {r : R α} {Q : α → List Ob → Prop} (h : Sat r Q) : Sat r.noX Q := by
  obtain ⟨a, cs, e, q⟩ := h.ex
  rw [e, noX_ok]
  exact .ok q
/-! ### the source's cells, when others come and go -/
/-- all but the source's cells stand -/
def Ext (cs cs1 : List Ob) : Prop := cs.length ≤ cs1.length ∧ ∀ i, i < cs.length → i ≠ 1 → i ≠ 2 → cs1[i]? = cs[i]?
theorem Ext.refl {cs : List Ob} : Ext cs cs := ⟨Nat.le_refl _, fun _ _ _ _ => rfl⟩
theorem Ext.trans {a b c : List Ob} (h : Ext a b) (k : Ext b c) : Ext a c := ⟨Nat.le_trans h.1 k.1, fun i h0 h1 h2 => (k.2 i (Nat.lt_of_lt_of_le h0 h.1) h1 h2).trans (h.2 i h0 h1 h2)⟩
theorem Kp.ext {a b : List Ob} (h : Kp a b) : Ext a b := ⟨Nat.le_of_eq h.1.symm, fun i _ h1 h2 => h.2 i h1 h2⟩
theorem Ext.app {cs x : List Ob} : Ext cs (cs ++ x) := ⟨by simp, fun i h0 _ _ => by rw [List.getElem?_append_left h0]⟩
theorem Ext.set {cs cs1 : List Ob} {n : Nat} {o : Ob} (h : Ext cs cs1) (hn : cs.length ≤ n) : Ext cs (cs1.set n o) := ⟨by rw [List.length_set]; exact h.1, fun i h0 h1 h2 => by rw [List.getElem?_set, if_neg (by omega)]; exact h.2 i h0 h1 h2⟩
theorem Ext.cell {cs cs1 : List Ob} (h : Ext cs cs1) {n : Nat} {xs : List W} (hc : cellL cs n = some xs) (h1 : n ≠ 1) (h2 : n ≠ 2) : cellL cs1 n = some xs := by
  rw [← hc]
  exact cellL_of (h.2 n (cellL_lt hc) h1 h2)
theorem Sr.of {cs cs1 : List Ob} (h : Sr cs) (h1 : cellL cs1 1 = cellL cs 1) (h2 : cellL cs1 2 = cellL cs 2) : Sr cs1 := by
  obtain ⟨st, ct, L, c2, c1, s0, s1⟩ := h
  exact ⟨st, ct, L, h2.trans c2, h1.trans c1, s0, s1⟩
theorem Sr.len {cs : List Ob} (h : Sr cs) : 2 < cs.length := by
  obtain ⟨st, ct, L, c2, c1, s0, s1⟩ := h
  exact cellL_lt c2
theorem Sr.app {cs x : List Ob} (h : Sr cs) : Sr (cs ++ x) := by
  have := h.len
  exact h.of (cellL_app (by omega)) (cellL_app (by omega))
theorem Sr.set {cs : List Ob} {n : Nat} {o : Ob} (h : Sr cs) (hn : 3 ≤ n) : Sr (cs.set n o) := h.of (cellL_other (by omega)) (cellL_other (by omega))
theorem Ctx.draw {X : Ctx} {n : Nat} (hd : X.ds[n]? = some ⟨4, 2, b_draw⟩) (k : Nat) {cs : List Ob} {m : Int} (h : Sr cs) (h1 : 0 < m) (h2 : m < 1073741824) : Sat (X.C (k + 1) n [.ref 2, .int m] cs) fun w cs1 => ∃ v : Int, w = .int v ∧ 0 ≤ v ∧ v < m ∧ Sr cs1 ∧ Kp cs cs1 := by
  refine Ctx.sat_of hd rfl ((sat_draw h h1 h2).mono fun fl cs1 z => ?_)
  obtain ⟨v, rfl, q⟩ := z
  exact ⟨v, rfl, q⟩
theorem Ctx.source {X : Ctx} {n : Nat} (hd : X.ds[n]? = some ⟨4, 1, b_source⟩) (k : Nat) {ns : List Int} (hl : ns.length ≤ 63) : Sat (X.C (k + 1) n [.scr (nums ns)] []) fun w cs1 => ∃ (st : Int) (A : List W) (L : List Int), w = .new [.int st, .int 0, .ref 1] ∧ cs1 = [.lst A, .lst (nums L)] ∧ 0 ≤ st ∧ st < mo := by
  refine Ctx.sat_of hd rfl ((sat_source hl).mono fun fl cs1 z => ?_)
  obtain ⟨st, A, B, L, rfl, q⟩ := z
  exact ⟨st, A, L, rfl, q⟩
end Ev
end S_EvLib3

section S_EvSame
set_option Elab.async false
set_option linter.all false
set_option maxRecDepth 100000
/-! EvSame: the laws' _law_same (its def has the number n). -/
namespace Ev
open Mi
def b_same (n : Nat) : Mi.Ss := (.cons (.ife (.cmp .isN (.var 1) .non) (.cons (.ret (.cmp .isN (.var 0) .non)) .nil) .nil) (.cons (.ife (.isi (.var 1) .bool) (.cons (.ret (.and (.isi (.var 0) .bool) (.cmp .eq (.var 0) (.var 1)))) .nil) .nil) (.cons (.ife (.isi (.var 1) .int) (.cons (.ret (.and (.isi (.var 0) .int) (.and (.not (.isi (.var 0) .bool)) (.cmp .eq (.var 0) (.var 1))))) .nil) .nil) (.cons (.ife (.isi (.var 1) .str) (.cons (.ret (.and (.isi (.var 0) .str) (.cmp .eq (.var 0) (.var 1)))) .nil) .nil) (.cons (.ife (.isi (.var 1) .list) (.cons (.ret (.and (.isi (.var 0) .list) (.callP n (.cons (.blt .tuple (.cons (.var 0) .nil)) (.cons (.blt .tuple (.cons (.var 1) .nil)) .nil))))) .nil) .nil) (.cons (.ife (.or (.not (.isi (.var 0) .tuple)) (.cmp .ne (.blt .len (.cons (.var 0) .nil)) (.blt .len (.cons (.var 1) .nil)))) (.cons (.ret (.bl false)) .nil) .nil) (.cons (.ret (.blt .all (.cons (.comp (.callP n (.cons (.sub (.var 0) (.var 2)) (.cons (.sub (.var 1) (.var 2)) .nil))) (.nm 2) (.range (.blt .len (.cons (.var 1) .nil))) .none [2]) .nil))) .nil)))))))
theorem eqW_bl (a b : Bool) : eqW (.bl a) (.bl b) = (a == b) := by rw [eqW]
theorem eqW_str (a b : PySem.Str) : eqW (.str a) (.str b) = (a == b) := by rw [eqW]
theorem cop_eq_gd {a b : W} {cs : List Ob} (ha : gd 6 a = true) (hb : gd 6 b = true) : cop .eq a b cs = some (eqW a b) := by
  have d1 : deref cs deep a = some a := deref_gd ha
  have d2 : deref cs deep b = some b := deref_gd hb
  have k1 : okW deep a = true := okW_gd ha
  have k2 : okW deep b = true := okW_gd hb
  show (match deref cs deep a, deref cs deep b with
    | some x, some y => if okW deep x && okW deep y then some (eqW x y) else none
    | _, _ => none) = _
  rw [d1, d2]
  simp only [k1, k2, Bool.and_self, if_true]
variable {X : Ctx} {n : Nat}
theorem isN_of {w : W} {cs : List Ob} (h : w ≠ .non) : cop .isN w .non cs = some false := by
  cases w <;> first | rfl | exact absurd rfl h
/-- one value of a kind that has no parts -/
theorem same_atom (hd : X.ds[n]? = some ⟨3, 2, b_same n⟩) (k : Nat) {w : W} (h : gd 1 w = true) (ht : (match w with
    | .tup _ => False
    | .lst _ => False
    | _ => True)) : X.P (k + 1) n [w, w] (.bl true) := by
  refine Ctx.P_of hd (by rfl) ?_
  show Sat (runs (X.O k) (b_same n) [some w, some w, none] []) _
  have g6 := gd_mono (j := 6) (by omega) h
  have e := cop_eq_gd (cs := []) g6 g6
  cases w with
  | non =>
      refine sat_cons (sat_if ?_)
      simp only [ev_cmp, ev_var, ev_non, List.getElem?_cons_succ, List.getElem?_cons_zero, bind_ok, isN_non, sat_ok]
      refine sat_cons (sat_ret ?_)
      simp only [ev_cmp, ev_var, ev_non, List.getElem?_cons_succ, List.getElem?_cons_zero, bind_ok, isN_non, sat_ok]
      rfl
  | bl b =>
      refine sat_cons (sat_if ?_)
      simp only [ev_cmp, ev_var, ev_non, List.getElem?_cons_succ, List.getElem?_cons_zero, bind_ok, isN_of (show W.bl b ≠ .non by intro h; cases h), sat_ok]
      refine sat_nil ?_
      refine sat_cons (sat_if ?_)
      simp only [ev_isi, ev_var, List.getElem?_cons_succ, List.getElem?_cons_zero, bind_ok, show isiW .bool (.bl b) [] = some true from rfl, sat_ok]
      refine sat_cons (sat_ret ?_)
      rw [eqW_bl, beq_self_eq_true] at e
      simp only [ev_and, ev_cmp, ev_isi, ev_var, List.getElem?_cons_succ, List.getElem?_cons_zero, bind_ok, show isiW .bool (.bl b) [] = some true from rfl, e, sat_ok]
      rfl
  | int i =>
      refine sat_cons (sat_if ?_)
      simp only [ev_cmp, ev_var, ev_non, List.getElem?_cons_succ, List.getElem?_cons_zero, bind_ok, isN_int, sat_ok]
      refine sat_nil ?_
      refine sat_cons (sat_if ?_)
      simp only [ev_isi, ev_var, List.getElem?_cons_succ, List.getElem?_cons_zero, bind_ok, isi_bool, sat_ok]
      refine sat_nil ?_
      refine sat_cons (sat_if ?_)
      simp only [ev_isi, ev_var, List.getElem?_cons_succ, List.getElem?_cons_zero, bind_ok, isi_int, sat_ok]
      refine sat_cons (sat_ret ?_)
      simp only [ev_isi, ev_and, ev_not, ev_cmp, ev_var, List.getElem?_cons_succ, List.getElem?_cons_zero, bind_ok, isi_int, isi_bool, truth_bl, Bool.not_false, cop_eq_int, beq_self_eq_true, sat_ok]
      rfl
  | str s =>
      refine sat_cons (sat_if ?_)
      simp only [ev_cmp, ev_var, ev_non, List.getElem?_cons_succ, List.getElem?_cons_zero, bind_ok, isN_of (show W.str s ≠ .non by intro h; cases h), sat_ok]
      refine sat_nil ?_
      refine sat_cons (sat_if ?_)
      simp only [ev_isi, ev_var, List.getElem?_cons_succ, List.getElem?_cons_zero, bind_ok, show isiW .bool (.str s) [] = some false from rfl, sat_ok]
      refine sat_nil ?_
      refine sat_cons (sat_if ?_)
      simp only [ev_isi, ev_var, List.getElem?_cons_succ, List.getElem?_cons_zero, bind_ok, show isiW .int (.str s) [] = some false from rfl, sat_ok]
      refine sat_nil ?_
      refine sat_cons (sat_if ?_)
      simp only [ev_isi, ev_var, List.getElem?_cons_succ, List.getElem?_cons_zero, bind_ok, show isiW .str (.str s) [] = some true from rfl, sat_ok]
      refine sat_cons (sat_ret ?_)
      rw [eqW_str, beq_self_eq_true] at e
      simp only [ev_and, ev_cmp, ev_isi, ev_var, List.getElem?_cons_succ, List.getElem?_cons_zero, bind_ok, show isiW .str (.str s) [] = some true from rfl, e, sat_ok]
      rfl
  | tup xs => exact ht.elim
  | lst xs => exact ht.elim
  | new xs => exact nomatch h
  | ref m => exact nomatch h
  | scr xs => exact nomatch h
theorem same_tup (hd : X.ds[n]? = some ⟨3, 2, b_same n⟩) (k : Nat) {xs : List W} (hl : xs.length ≤ 99999) (hg : ∀ x ∈ xs, gd 6 x = true) (h : ∀ x ∈ xs, X.P k n [x, x] (.bl true)) : X.P (k + 1) n [.tup xs, .tup xs] (.bl true) := by
  refine Ctx.P_of hd (by rfl) ?_
  show Sat (runs (X.O k) (b_same n) [some (.tup xs), some (.tup xs), none] []) _
  refine sat_cons (sat_if ?_)
  simp only [ev_cmp, ev_var, ev_non, List.getElem?_cons_succ, List.getElem?_cons_zero, bind_ok, isN_tup, sat_ok]
  refine sat_nil ?_
  refine sat_cons (sat_if ?_)
  simp only [ev_isi, ev_var, List.getElem?_cons_succ, List.getElem?_cons_zero, bind_ok, isi_tup_bool, sat_ok]
  refine sat_nil ?_
  refine sat_cons (sat_if ?_)
  simp only [ev_isi, ev_var, List.getElem?_cons_succ, List.getElem?_cons_zero, bind_ok, isi_tup_int, sat_ok]
  refine sat_nil ?_
  refine sat_cons (sat_if ?_)
  simp only [ev_isi, ev_var, List.getElem?_cons_succ, List.getElem?_cons_zero, bind_ok, isi_tup_str, sat_ok]
  refine sat_nil ?_
  refine sat_cons (sat_if ?_)
  simp only [ev_isi, ev_var, List.getElem?_cons_succ, List.getElem?_cons_zero, bind_ok, show isiW .list (.tup xs) [] = some false from rfl, sat_ok]
  refine sat_nil ?_
  refine sat_cons (sat_if ?_)
  simp only [ev_or, ev_not, ev_cmp, ev_blt, evs_cons, evs_nil, ev_isi, ev_var, List.getElem?_cons_succ, List.getElem?_cons_zero, bind_ok, isi_tup_tuple, truth_bl, Bool.not_true, fz_tup, blt_len_tup, cop_ne_int, beq_self_eq_true, sat_ok]
  refine sat_nil ?_
  refine sat_cons (sat_ret ?_)
  have e1 : evI (X.O k) [some (.tup xs), some (.tup xs), none] (.range (.blt .len (.cons (.var 1) .nil))) [] = .ok (.im (rangeI 0 xs.length)) [] := by
    simp [rangeW_n hl]
  have e2 := ev_map (O := X.O k) (elt := .callP n (.cons (.sub (.var 0) (.var 2)) (.cons (.sub (.var 1) (.var 2)) .nil))) (t := .nm 2) (own := [2]) (fun x => .bl true) e1 (by rw [rangeI_len]; omega) (by
    intro x hx
    obtain ⟨i, hi, rfl⟩ := rangeI_mem hx
    refine ⟨_, .bl true, rfl, ?_, rfl⟩
    have hm : xs[i] ∈ xs := List.getElem_mem hi
    have hz : fz xs[i] = xs[i] := gd_fz (hg _ hm)
    have ea : at? xs (i : Int) = some xs[i] := by
      rw [at?, place_nat hi]
      show xs[i]? = _
      rw [List.getElem?_eq_getElem hi]
    have q := (h _ hm).call (cs := []) (ws := [xs[i], xs[i]]) (derefL_self fun y hy => by
      have : y = xs[i] := by simpa using hy
      rw [this]
      exact deref_gd (k := 6) (hg _ hm))
    simp only [wipe_cons, wipe_nil, fz_int, Int.zero_add, ev_callP, ev_sub, evs_cons, evs_nil, ev_int, ev_var, List.set_cons_succ, List.set_cons_zero, List.getElem?_cons_succ, List.getElem?_cons_zero, bind_ok, subW, items_tup, ea, ofO_some, hz, q])
  have e3 : blt .all [.lst ((rangeI 0 xs.length).map fun x => W.bl true)] [] = .ok (.bl true) [] := by
    have := blt_all (cs := []) (bs := (rangeI 0 xs.length).map fun x => true)
    rw [List.map_map] at this
    refine Eq.trans this ?_
    have q : ((rangeI 0 xs.length).map fun x => true).all id = true := by simp
    rw [q]
  simp only [ev_blt, evs_cons, evs_nil, e2, bind_ok, fz_new, e3, sat_ok]
  rfl
theorem same_lst (hd : X.ds[n]? = some ⟨3, 2, b_same n⟩) (k : Nat) {xs : List W} (hl : xs.length ≤ 99999) (hg : ∀ x ∈ xs, gd 5 x = true) (h : X.P k n [.tup xs, .tup xs] (.bl true)) : X.P (k + 1) n [.lst xs, .lst xs] (.bl true) := by
  refine Ctx.P_of hd (by rfl) ?_
  show Sat (runs (X.O k) (b_same n) [some (.lst xs), some (.lst xs), none] []) _
  refine sat_cons (sat_if ?_)
  simp only [ev_cmp, ev_var, ev_non, List.getElem?_cons_succ, List.getElem?_cons_zero, bind_ok, isN_of (show W.lst xs ≠ .non by intro h; cases h), sat_ok]
  refine sat_nil ?_
  refine sat_cons (sat_if ?_)
  simp only [ev_isi, ev_var, List.getElem?_cons_succ, List.getElem?_cons_zero, bind_ok, show isiW .bool (.lst xs) [] = some false from rfl, sat_ok]
  refine sat_nil ?_
  refine sat_cons (sat_if ?_)
  simp only [ev_isi, ev_var, List.getElem?_cons_succ, List.getElem?_cons_zero, bind_ok, show isiW .int (.lst xs) [] = some false from rfl, sat_ok]
  refine sat_nil ?_
  refine sat_cons (sat_if ?_)
  simp only [ev_isi, ev_var, List.getElem?_cons_succ, List.getElem?_cons_zero, bind_ok, show isiW .str (.lst xs) [] = some false from rfl, sat_ok]
  refine sat_nil ?_
  refine sat_cons (sat_if ?_)
  simp only [ev_isi, ev_var, List.getElem?_cons_succ, List.getElem?_cons_zero, bind_ok, show isiW .list (.lst xs) [] = some true from rfl, sat_ok]
  refine sat_cons (sat_ret ?_)
  have q := h.call (cs := []) (ws := [.tup xs, .tup xs]) (derefL_self fun y hy => by
    have : y = .tup xs := by simpa using hy
    rw [this]
    exact deref_gd (k := 6) (gd_tup hl hg))
  simp only [ev_and, ev_isi, ev_callP, ev_blt, evs_cons, evs_nil, ev_var, List.getElem?_cons_succ, List.getElem?_cons_zero, bind_ok, show isiW .list (.lst xs) [] = some true from rfl, fz_lst, fz_tup, blt_tuple_lst, mkTup_ok (show xs.length ≤ 100000 by omega), q, sat_ok]
  rfl
/-- data is the same as itself -/
theorem same_gd (hd : X.ds[n]? = some ⟨3, 2, b_same n⟩) : ∀ (d : Nat) {w : W} (k : Nat), d ≤ 6 → gd d w = true → X.P (k + 2 * d) n [w, w] (.bl true)
  | 0, _, _, _, h => nomatch h
  | d + 1, w, k, h6, h => by
      have tp : ∀ (j : Nat) (xs : List W), xs.length ≤ 99999 → (∀ x ∈ xs, gd d x = true) → X.P (j + 2 * d + 1) n [.tup xs, .tup xs] (.bl true) := fun j xs hl hx =>
        same_tup hd (j + 2 * d) hl (fun x m => gd_mono (by omega) (hx x m)) fun x m => same_gd hd d j (by omega) (hx x m)
      cases w with
      | tup xs =>
          simp only [gd, Bool.and_eq_true, List.all_eq_true, decide_eq_true_eq] at h
          have q := tp (k + 1) xs h.1 h.2
          rw [show k + 2 * (d + 1) = k + 1 + 2 * d + 1 by omega]
          exact q
      | lst xs =>
          simp only [gd, Bool.and_eq_true, List.all_eq_true, decide_eq_true_eq] at h
          have q := tp k xs h.1 h.2
          rw [show k + 2 * (d + 1) = k + 2 * d + 1 + 1 by omega]
          exact same_lst hd _ h.1 (fun x m => gd_mono (by omega) (h.2 x m)) q
      | new xs => exact nomatch h
      | ref m => exact nomatch h
      | scr xs => exact nomatch h
      | _ => exact same_atom hd (k + 2 * d + 1) (by exact h) trivial
/-- the call within a def: true where both are one -/
theorem same_call (hd : X.ds[n]? = some ⟨3, 2, b_same n⟩) {k : Nat} {w : W} {cs : List Ob} (h : gd 6 w = true) : callP (X.O (k + 12)) n [w, w] cs = .ok (.bl true) cs :=
  (same_gd hd 6 k (by omega) h).call (derefL_self fun y hy => by
    have : y = w := by simpa using hy
    rw [this]
    exact deref_gd (k := 6) h)
end Ev
end S_EvSame

section S_K85m
set_option Elab.async false
set_option linter.all false
/-! K85m: placings as numbers, in plain words. -/
namespace K85
/-- the numbers of all copies, from piece i on -/
def nmb : Int → List (List Int) → List Int
  | _, [] => []
  | i, l :: P => (l.map fun s => 8 * i + s) ++ nmb (i + 1) P
def lotAt (row : List Int) (p : Int) : List Int := (row.filter fun n => n / 8 == p).map (· % 8)
def plc (n : Nat) (row : List Int) : List (List Int) := (List.range n).map fun (p : Nat) => lotAt row (p : Int)
/-- lots of stores below 8, rising -/
def Lot (l : List Int) : Prop := l.Pairwise (· < ·) ∧ ∀ s ∈ l, 0 ≤ s ∧ s < 8
def Plc (P : List (List Int)) : Prop := ∀ l ∈ P, Lot l
theorem nmb_ge {i x : Int} : ∀ {P : List (List Int)}, Plc P → x ∈ nmb i P → 8 * i ≤ x ∧ x < 8 * (i + P.length)
  | [], _, h => nomatch h
  | l :: P, hP, h => by
      rw [nmb, List.mem_append, List.mem_map] at h
      rcases h with ⟨s, h1, rfl⟩ | h
      · have := (hP l (List.mem_cons_self ..)).2 s h1
        rw [List.length_cons]
        omega
      · have := nmb_ge (fun m hm => hP m (List.mem_cons_of_mem _ hm)) h
        rw [List.length_cons]
        omega
theorem nmb_rise {i : Int} : ∀ {P : List (List Int)}, Plc P → (nmb i P).Pairwise (· < ·)
  | [], _ => .nil
  | l :: P, hP => by
      rw [nmb, List.pairwise_append]
      refine ⟨?_, nmb_rise fun m hm => hP m (List.mem_cons_of_mem _ hm), ?_⟩
      · rw [List.pairwise_map]
        exact (hP l (List.mem_cons_self ..)).1.imp fun h => by omega
      · intro a ha b hb
        rw [List.mem_map] at ha
        obtain ⟨s, h1, rfl⟩ := ha
        have := (hP l (List.mem_cons_self ..)).2 s h1
        have := nmb_ge (fun m hm => hP m (List.mem_cons_of_mem _ hm)) hb
        omega
theorem lotAt_app (A B : List Int) (p : Int) : lotAt (A ++ B) p = lotAt A p ++ lotAt B p := by simp [lotAt]
theorem lotAt_nil {A : List Int} {p : Int} (h : ∀ x ∈ A, x / 8 ≠ p) : lotAt A p = [] := by
  unfold lotAt
  rw [List.map_eq_nil_iff, List.filter_eq_nil_iff]
  intro x hx
  simpa using h x hx
theorem lotAt_own {l : List Int} {i : Int} (h : ∀ s ∈ l, 0 ≤ s ∧ s < 8) : lotAt (l.map fun s => 8 * i + s) i = l := by
  induction l with
  | nil => rfl
  | cons s l ih =>
      have q := h s (List.mem_cons_self ..)
      have e := ih fun t ht => h t (List.mem_cons_of_mem _ ht)
      unfold lotAt at e ⊢
      rw [List.map_cons, List.filter_cons_of_pos (by simp; omega), List.map_cons, e, show (8 * i + s) % 8 = s by omega]
theorem plc_nmb_at : ∀ {P : List (List Int)} {i : Int}, Plc P → ((List.range P.length).map fun (j : Nat) => lotAt (nmb i P) (i + (j : Int))) = P
  | [], _, _ => rfl
  | l :: P, i, hP => by
      have hP' : Plc P := fun m hm => hP m (List.mem_cons_of_mem _ hm)
      have hl := (hP l (List.mem_cons_self ..)).2
      rw [List.length_cons, List.range_succ_eq_map, List.map_cons, List.map_map, nmb]
      refine congr (congrArg _ ?_) ?_
      · rw [lotAt_app, show i + ((0 : Nat) : Int) = i by omega, lotAt_own hl, lotAt_nil, List.append_nil]
        intro x hx
        have := nmb_ge hP' hx
        omega
      · refine Eq.trans (List.map_congr_left fun j hj => ?_) (plc_nmb_at (i := i + 1) hP')
        show lotAt _ (i + ((j + 1 : Nat) : Int)) = _
        rw [lotAt_app, lotAt_nil (A := l.map _), List.nil_append, show i + ((j + 1 : Nat) : Int) = i + 1 + (j : Int) by omega]
        intro x hx
        rw [List.mem_map] at hx
        obtain ⟨s, h1, rfl⟩ := hx
        have := hl s h1
        omega
theorem plc_nmb {P : List (List Int)} (h : Plc P) : plc P.length (nmb 0 P) = P := by
  refine Eq.trans (List.map_congr_left fun j hj => ?_) (plc_nmb_at (i := 0) h)
  rw [Int.zero_add]
/-! what each has alone -/
def aln : Int → List (List Int) → List (List Int) → List (Int × Int)
  | i, l :: P, m :: Q => ((l.filter fun s => !m.contains s).map fun s => (i, s)) ++ aln (i + 1) P Q
  | _, _, _ => []
theorem filter_map_aux {i : Int} {p q : Int → Bool} : ∀ {l : List Int}, (∀ s ∈ l, 0 ≤ s ∧ s < 8) → (∀ s ∈ l, p (8 * i + s) = q s) → ((l.map fun s => 8 * i + s).filter p).map (fun n => (n / 8, n % 8)) = (l.filter q).map fun s => (i, s)
  | [], _, _ => rfl
  | s :: l, h, hq => by
      have q1 := h s (List.mem_cons_self ..)
      have e := filter_map_aux (fun t ht => h t (List.mem_cons_of_mem _ ht)) (fun t ht => hq t (List.mem_cons_of_mem _ ht))
      rw [List.map_cons]
      cases c : q s with
      | true => rw [List.filter_cons_of_pos (by rw [hq s (List.mem_cons_self ..), c]), List.filter_cons_of_pos c, List.map_cons, List.map_cons, e, show (8 * i + s) / 8 = i by omega, show (8 * i + s) % 8 = s by omega]
      | false => rw [List.filter_cons_of_neg (by rw [hq s (List.mem_cons_self ..), c]; decide), List.filter_cons_of_neg (by rw [c]; decide), e]
theorem unlike_aln : ∀ {P Q : List (List Int)} {i : Int}, P.length = Q.length → Plc P → Plc Q → ((nmb i P).filter fun n => !(nmb i Q).contains n).map (fun n => (n / 8, n % 8)) = aln i P Q
  | [], [], _, _, _, _ => rfl
  | l :: P, m :: Q, i, hl, hP, hQ => by
      have hP' : Plc P := fun m hm => hP m (List.mem_cons_of_mem _ hm)
      have hQ' : Plc Q := fun m hm => hQ m (List.mem_cons_of_mem _ hm)
      have hm := (hQ m (List.mem_cons_self ..)).2
      have hl' := (hP l (List.mem_cons_self ..)).2
      rw [show nmb i (l :: P) = (l.map fun s => 8 * i + s) ++ nmb (i + 1) P from rfl, aln, List.filter_append, List.map_append]
      refine congr (congrArg _ ?_) ?_
      · refine filter_map_aux hl' fun s hs => ?_
        congr 1
        have := hl' s hs
        rw [Bool.eq_iff_iff, List.contains_iff_mem, List.contains_iff_mem, nmb, List.mem_append, List.mem_map]
        constructor
        · rintro (⟨t, ht, e⟩ | h)
          · have : t = s := by omega
            subst this
            exact ht
          · have := nmb_ge hQ' h
            omega
        · exact fun h => .inl ⟨s, h, rfl⟩
      · rw [← unlike_aln (by simpa using hl) hP' hQ']
        congr 1
        refine List.filter_congr fun x hx => ?_
        congr 1
        have := nmb_ge hP' hx
        rw [Bool.eq_iff_iff, List.contains_iff_mem, List.contains_iff_mem, nmb, List.mem_append, List.mem_map]
        constructor
        · rintro (⟨t, ht, e⟩ | h)
          · have := hm t ht
            omega
          · exact h
        · exact .inr
  | [], _ :: _, _, h, _, _ => nomatch h
  | _ :: _, [], _, h, _, _ => nomatch h
theorem plc_len (n : Nat) (row : List Int) : (plc n row).length = n := by simp [plc]
end K85
end S_K85m

section S_K85e
set_option Elab.async false
set_option linter.all false
set_option maxRecDepth 100000
/-! K85e: what the program's functions compute. -/
namespace K85
open Mi Ev
def XX : Ctx := ⟨defs.map (·.d), So.gOf consts, 3000⟩
theorem at_is_from_to : XX.ds[0]? = some t_is_from_to.d := rfl
theorem at_check_number : XX.ds[1]? = some t_check_number.d := rfl
theorem at_is_rising : XX.ds[2]? = some t_is_rising.d := rfl
theorem at_numbers_of : XX.ds[3]? = some t_numbers_of.d := rfl
theorem at_placing_of : XX.ds[4]? = some t_placing_of.d := rfl
theorem at_copies_of : XX.ds[5]? = some t_copies_of.d := rfl
theorem at_unlike_copies : XX.ds[6]? = some t_unlike_copies.d := rfl
theorem at_new_copies : XX.ds[7]? = some t_new_copies.d := rfl
theorem at_law_source : XX.ds[8]? = some ⟨4, 1, b_source⟩ := rfl
theorem at_law_draw : XX.ds[9]? = some ⟨4, 2, b_draw⟩ := rfl
theorem at_law_same : XX.ds[10]? = some ⟨3, 2, b_same 10⟩ := rfl
theorem at_law_lots : XX.ds[11]? = some t_law_lots.d := rfl
theorem at_law_changed : XX.ds[12]? = some t_law_changed.d := rfl
theorem at_law_row : XX.ds[13]? = some t_law_row.d := rfl
theorem at_law_numbers : XX.ds[14]? = some t_law_numbers.d := rfl
theorem at_law_placed : XX.ds[15]? = some t_law_placed.d := rfl
theorem at_law_alone : XX.ds[16]? = some t_law_alone.d := rfl
theorem at_law_ask : XX.ds[17]? = some t_law_ask.d := rfl
theorem at_law_wrong_rows : XX.ds[18]? = some t_law_wrong_rows.d := rfl
theorem at_law : XX.ds[19]? = some t_law.d := rfl
@[simp] theorem glob1 : XX.g "STORES" = some (.int 8) := by kernel_rfl
@[simp] theorem glob2 : XX.g "MOST_PIECES" = some (.int 40) := by kernel_rfl
/-! ### numbers from .. to, rising rows -/
/-- a value that is no list -/
def At (w : W) : Prop := match w with
  | .lst _ => False
  | .new _ => False
  | .ref _ => False
  | .scr _ => False
  | _ => True
def ift (w : W) (l m : Int) : Bool := match w with
  | .int i => decide (l ≤ i) && decide (i ≤ m)
  | _ => false
theorem p_is_from_to (k : Nat) {v : W} (hv : At v) (l m : Int) : XX.P (k + 1) 0 [v, .int l, .int m] (.bl (ift v l m)) := by
  refine Ctx.P_of at_is_from_to (by rfl) ?_
  show Sat (runs (XX.O k) b_is_from_to [some v, some (.int l), some (.int m)] []) _
  refine sat_cons (sat_ret ?_)
  cases v with
  | int i => by_cases h : l ≤ i <;> simp [h, ift]
  | lst xs => exact hv.elim
  | new xs => exact hv.elim
  | ref n => exact hv.elim
  | scr xs => exact hv.elim
  | bl b => simp [ift, show isiW .int (.bl b) [] = some true from rfl, show isiW .bool (.bl b) [] = some true from rfl]
  | non => simp [ift, show isiW .int .non [] = some false from rfl]
  | str s => simp [ift, show isiW .int (.str s) [] = some false from rfl]
  | tup xs => simp [ift, show isiW .int (.tup xs) [] = some false from rfl]
theorem call_ift (k : Nat) {v : W} (hv : At v) (hg : gd 6 v = true) (l m : Int) {cs : List Ob} : callP (XX.O (k + 1)) 0 [v, .int l, .int m] cs = .ok (.bl (ift v l m)) cs :=
  (p_is_from_to k hv l m).call (derefL_cons' (deref_gd hg) (derefL_cons' rfl (derefL_cons' rfl derefL_nil')))
theorem p_check_ok (k : Nat) {v : W} (hv : At v) (hg : gd 6 v = true) {l m : Int} (h : ift v l m = true) : XX.P (k + 2) 1 [v, .int l, .int m] .non := by
  refine Ctx.P_of at_check_number (by rfl) ?_
  show Sat (runs (XX.O (k + 1)) b_check_number [some v, some (.int l), some (.int m)] []) _
  refine sat_cons (sat_if ?_)
  simp only [ev_not, ev_callP, evs_cons, evs_nil, ev_var, List.getElem?_cons_succ, List.getElem?_cons_zero, bind_ok, fz_int, gd_fz hg, call_ift k hv hg, h, truth_bl, Bool.not_true, sat_ok]
  exact sat_nil (sat_nil trivial)
theorem check_bad (k : Nat) {v : W} (hv : At v) (hg : gd 6 v = true) {l m : Int} (h : ift v l m = false) : XX.C (k + 2) 1 [v, .int l, .int m] [] = .exn ⟨0, [("value", v)]⟩ [] := by
  refine Ctx.exn_of at_check_number (by rfl) ?_
  show runs (XX.O (k + 1)) b_check_number [some v, some (.int l), some (.int m)] [] = _
  refine runs_exn ((run_ift (cs1 := []) ?_).trans (runs_exn ((run_raise (cs1 := []) (w := v) ?_).trans (by rw [gd_fz hg]))))
  · simp only [ev_not, ev_callP, evs_cons, evs_nil, ev_var, List.getElem?_cons_succ, List.getElem?_cons_zero, bind_ok, fz_int, gd_fz hg, call_ift k hv hg, h, truth_bl, Bool.not_false]
  · simp only [ev_var, List.getElem?_cons_succ, List.getElem?_cons_zero]
def nxI : W → Int
  | .int i => i + 1
  | _ => 0
def ris : Int → Int → List W → Bool
  | _, _, [] => true
  | l, m, w :: ws => ift w l m && ris (nxI w) m ws
/-- whether a value is a rising row up to m -/
def isR (w : W) (m : Int) : Bool := match w with
  | .tup ws => ris 0 m ws
  | _ => false
theorem p_is_rising (k : Nat) {ws : List W} (hv : ∀ w ∈ ws, At w) (hg : ∀ w ∈ ws, gd 6 w = true) (m : Int) : XX.P (k + 2) 2 [.tup ws, .int m] (.bl (ris 0 m ws)) := by
  refine Ctx.P_of at_is_rising (by rfl) ?_
  show Sat (runs (XX.O (k + 1)) b_is_rising [some (.tup ws), some (.int m), none, none] []) _
  refine sat_cons (sat_if ?_)
  simp only [ev_not, ev_isi, ev_var, List.getElem?_cons_succ, List.getElem?_cons_zero, bind_ok, isi_tup_tuple, truth_bl, Bool.not_true, sat_ok]
  refine sat_nil (sat_cons (sat_set ?_))
  simp only [ev_int, sat_ok, List.set_cons_succ, List.set_cons_zero, fz_int]
  refine sat_cons ?_
  refine sat_for (xs := ws) (by simp) (I := fun R ρ cs => cs = [] ∧ (∀ w ∈ R, At w ∧ gd 6 w = true) ∧ ∃ (l : Int) (o : Option W), ris l m R = ris 0 m ws ∧ ρ = [some (.tup ws), some (.int m), some (.int l), o]) ?_ ?_ ?_
  · exact ⟨rfl, fun w hw => ⟨hv w hw, hg w hw⟩, 0, none, rfl, rfl⟩
  · rintro x R ρ cs ⟨rfl, hR, l, o, e, rfl⟩
    obtain ⟨a1, a2⟩ := hR x (List.mem_cons_self ..)
    simp only [put_nm, gd_fz a2, List.set_cons_succ, List.set_cons_zero]
    refine sat_cons (sat_if ?_)
    simp only [ev_not, ev_callP, evs_cons, evs_nil, ev_var, List.getElem?_cons_succ, List.getElem?_cons_zero, bind_ok, fz_int, gd_fz a2, call_ift k a1 a2, truth_bl, sat_ok]
    rw [ris] at e
    cases c : ift x l m with
    | false =>
        simp only [Bool.not_false]
        refine sat_cons (sat_ret ?_)
        rw [c, Bool.false_and] at e
        rw [← e]
        simp only [ev_bl, sat_ok]
        rfl
    | true =>
        simp only [Bool.not_true]
        refine sat_nil ?_
        rw [c, Bool.true_and] at e
        cases x with
        | int i =>
            refine sat_cons (sat_set ?_)
            simp only [ev_bin, ev_int, ev_var, List.getElem?_cons_succ, List.getElem?_cons_zero, bind_ok, bop_add, fz_int, sat_ok, List.set_cons_succ, List.set_cons_zero]
            exact sat_nil ⟨rfl, fun w hw => hR w (List.mem_cons_of_mem _ hw), i + 1, _, e, rfl⟩
        | _ => exact nomatch c
  · rintro ρ cs ⟨rfl, hR, l, o, e, rfl⟩
    refine sat_cons (sat_ret ?_)
    rw [← e]
    simp only [ev_bl, sat_ok]
    rfl
theorem p_not_rising (k : Nat) {w : W} (hg : gd 6 w = true) (h : ∀ xs, w ≠ .tup xs) (m : Int) : XX.P (k + 2) 2 [w, .int m] (.bl false) := by
  refine Ctx.P_of at_is_rising (by rfl) ?_
  show Sat (runs (XX.O (k + 1)) b_is_rising [some w, some (.int m), none, none] []) _
  refine sat_cons (sat_if ?_)
  have e : isiW .tuple w [] = some false := by
    cases w with
    | tup xs => exact absurd rfl (h xs)
    | new xs => exact nomatch hg
    | ref n => exact nomatch hg
    | scr xs => exact nomatch hg
    | _ => rfl
  simp only [ev_not, ev_isi, ev_var, List.getElem?_cons_succ, List.getElem?_cons_zero, bind_ok, e, truth_bl, Bool.not_false, sat_ok]
  refine sat_cons (sat_ret ?_)
  simp only [ev_bl, sat_ok]
  rfl
/-- a row that is asked for: data, the members no lists -/
def Row (w : W) : Prop := gd 6 w = true ∧ ∀ xs, w = .tup xs → ∀ x ∈ xs, At x
theorem p_rise (k : Nat) {w : W} (h : Row w) (m : Int) : XX.P (k + 2) 2 [w, .int m] (.bl (isR w m)) := by
  obtain ⟨hg, h⟩ := h
  cases w with
  | tup ws =>
      refine p_is_rising k (h ws rfl) (fun x hx => ?_) m
      exact gd_mono (by omega) (gd_mem hg x hx)
  | _ => exact p_not_rising k hg (fun xs e => by cases e) m
theorem ris_nums {m : Int} : ∀ {L : List Int} {l : Int}, L.Pairwise (· < ·) → (∀ x ∈ L, l ≤ x ∧ x ≤ m) → ris l m (nums L) = true
  | [], _, _, _ => rfl
  | x :: L, l, hp, h => by
      have q := h x (List.mem_cons_self ..)
      rw [nums_cons, ris]
      simp only [ift, nxI, q.1, q.2, decide_true, Bool.and_self, Bool.true_and]
      refine ris_nums (List.pairwise_cons.mp hp).2 fun y hy => ?_
      have := (List.pairwise_cons.mp hp).1 y hy
      have := h y (List.mem_cons_of_mem _ hy)
      omega
end K85
end S_K85e

section S_K85f
set_option Elab.async false
set_option linter.all false
set_option maxRecDepth 100000
set_option maxHeartbeats 1000000
/-! K85f: placings as numbers, by the program and by the law. -/
namespace K85
open Mi Ev
def PL (P : List (List Int)) : W := .tup (P.map fun l => tI l)
def prs (l : List (Int × Int)) : List W := l.map fun p => .tup [.int p.1, .int p.2]
def tP (l : List (Int × Int)) : W := .tup (prs l)
theorem rise_len {a b : Int} : ∀ {L : List Int}, L.Pairwise (· < ·) → (∀ x ∈ L, a ≤ x ∧ x < b) → L.length ≤ (b - a).toNat
  | [], _, _ => Nat.zero_le _
  | x :: L, hp, h => by
      have q := h x (List.mem_cons_self ..)
      have e := rise_len (a := x + 1) (b := b) (List.pairwise_cons.mp hp).2 fun y hy => by
        have := (List.pairwise_cons.mp hp).1 y hy
        have := h y (List.mem_cons_of_mem _ hy)
        omega
      rw [List.length_cons]
      omega
theorem Lot.len {l : List Int} (h : Lot l) : l.length ≤ 8 := rise_len h.1 h.2
theorem nmb_len {P : List (List Int)} {i : Int} (h : Plc P) (hi : P.length ≤ 40) : (nmb i P).length ≤ 320 := by
  have := rise_len (nmb_rise (i := i) h) fun x hx => nmb_ge h hx
  omega
theorem prs_app (a b : List (Int × Int)) : prs a ++ prs b = prs (a ++ b) := by simp [prs]
theorem aln_len : ∀ {P Q : List (List Int)} {i : Int}, Plc P → (aln i P Q).length ≤ 8 * P.length
  | [], Q, _, _ => by cases Q <;> simp [aln]
  | l :: P, [], _, _ => by simp [aln]
  | l :: P, m :: Q, i, h => by
      have h1 := (h l (List.mem_cons_self ..)).len
      have h2 := aln_len (Q := Q) (i := i + 1) fun m hm => h m (List.mem_cons_of_mem _ hm)
      have h3 := List.length_filter_le (fun s => !m.contains s) l
      rw [aln, List.length_append, List.length_map, List.length_cons]
      omega
theorem flat_prs {k : Nat} (l : List (Int × Int)) : ∀ x ∈ prs l, flat (k + 2) x = true := by
  intro x hx
  simp only [prs, List.mem_map] at hx
  obtain ⟨p, _, rfl⟩ := hx
  rfl
theorem flat_PL (P : List (List Int)) : flat deep (PL P) = true := flat_tup (k := 5) fun x hx => by
  simp only [List.mem_map] at hx
  obtain ⟨l, _, rfl⟩ := hx
  exact flat_tI
theorem gd_PL {k : Nat} {P : List (List Int)} (h : Plc P) (hi : P.length ≤ 40) : gd (k + 3) (PL P) = true := gd_tup (by rw [List.length_map]; omega) fun x hx => by
  simp only [List.mem_map] at hx
  obtain ⟨l, hl, rfl⟩ := hx
  exact gd_tI (by have := (h l hl).len; omega)
theorem gd_tP {k : Nat} {l : List (Int × Int)} (h : l.length ≤ 99999) : gd (k + 3) (tP l) = true := gd_tup (by simpa [prs] using h) fun x hx => by
  simp only [prs, List.mem_map] at hx
  obtain ⟨p, _, rfl⟩ := hx
  rfl
theorem nums_flatW (M : List Int) : (nums M).all isFlatW = true := by
  rw [List.all_eq_true]
  intro x hx
  simp only [nums, List.mem_map] at hx
  obtain ⟨i, _, rfl⟩ := hx
  rfl
theorem nums_any (M : List Int) (n : Int) : ((nums M).any fun y => eqW y (.int n)) = M.contains n := by
  induction M with
  | nil => rfl
  | cons m M ih =>
      rw [nums_cons, List.any_cons, ih, eqW_int, List.contains_cons]
      congr 1
      exact Bool.beq_comm
theorem cop_notin {w : W} {M : List Int} {cs : List Ob} (h : items cs w = some (nums M)) (n : Int) : cop .notin (.int n) w cs = some (!(M.contains n)) := by
  unfold cop
  simp only [h, nums_flatW, nums_any, isFlatW, Bool.and_self, if_true]
theorem compGo_nums {F : W → List Ob → R (Option W)} {p : Int → Bool} {g : Int → W} {cs : List Ob} : ∀ {L : List Int}, (∀ n ∈ L, F (.int n) cs = .ok (if p n then some (g n) else none) cs) → compGo F (nums L) cs = .ok ((L.filter p).map g) cs
  | [], _ => by rw [nums_nil, compGo]; rfl
  | n :: L, h => by
      rw [nums_cons, compGo, h n (List.mem_cons_self ..), bind_ok, compGo_nums fun y hy => h y (List.mem_cons_of_mem _ hy), bind_ok]
      cases c : p n with
      | true => rw [List.filter_cons_of_pos c]; simp
      | false => rw [List.filter_cons_of_neg (by rw [c]; decide)]; simp
/-- a comprehension over numbers -/
theorem ev_compN {O : Orc} {elt : Ex} {t : Tg} {it : It} {c : OEx} {own : List Nat} {ρ : ME} {cs : List Ob} {L : List Int} (p : Int → Bool) (g : Int → W) (hi : evI O ρ it cs = .ok (.im (nums L)) cs) (hl : L.length ≤ 99999)
    (h : ∀ n ∈ L, ∃ ρ', put t (.int n) (wipe ρ own) = some ρ' ∧ ((evC O ρ' c cs).bind fun b cs => if b then (ev O ρ' elt cs).bind fun y cs => .ok (some (fz y)) cs else .ok none cs) = .ok (if p n then some (g n) else none) cs) : ev O ρ (.comp elt t it c own) cs = .ok (.new ((L.filter p).map g)) cs := by
  rw [ev, hi, bind_ok, compS, compGo_nums (p := p) (g := g)]
  · rw [bind_ok, mkNew_ok]
    have := List.length_filter_le p L
    rw [List.length_map]
    omega
  · intro n hn
    obtain ⟨ρ', e1, e2⟩ := h n hn
    rw [fz_int]
    simp only [e1]
    rw [e2, noX_ok]
theorem filter_true {α : Type} (L : List α) : L.filter (fun _ => true) = L := List.filter_eq_self.mpr fun _ _ => rfl
theorem big_ok {a : Int} (h : -1000 < a) (h2 : a < 1000000) : -big < a ∧ a < big := by
  unfold big
  omega
/-! ### numbers_of -/
theorem cat_lots {F : W → List Ob → R (List W)} {cs : List Ob} : ∀ {P : List (List Int)} {i : Nat}, (∀ (j : Nat) l, l ∈ P → F (.tup [.int (j : Int), tI l]) cs = .ok (nums (l.map fun s => 8 * (j : Int) + s)) cs) → cat2 F (enumW i (P.map fun l => tI l)) cs = .ok (nums (nmb (i : Int) P)) cs
  | [], i, _ => by rw [List.map_nil, enumW, cat2]; rfl
  | l :: P, i, h => by
      rw [List.map_cons, enumW, cat2, h i l (List.mem_cons_self ..), bind_ok, cat_lots fun j m hm => h j m (List.mem_cons_of_mem _ hm), bind_ok, nmb, nums_app]
      rfl
theorem p_numbers_of (k : Nat) {P : List (List Int)} (h : Plc P) (hi : P.length ≤ 40) : XX.P (k + 1) 3 [PL P] (tI (nmb 0 P)) := by
  refine Ctx.P_of at_numbers_of (by rfl) ?_
  show Sat (runs (XX.O k) b_numbers_of [some (PL P), none, none, none] []) _
  refine sat_cons (sat_ret ?_)
  have e : ev (XX.O k) [some (PL P), none, none, none] (.comp2 (.bin .add (.bin .mul (.glob "STORES") (.var 2)) (.var 1)) (.tp [2, 3]) (.enum (.var 0)) (.nm 1) (.var 3) [2, 3, 1] [1]) [] = .ok (.new (nums (nmb 0 P))) [] := by
    rw [ev]
    have e0 : evI (XX.O k) [some (PL P), none, none, none] (.enum (.var 0)) [] = .ok (.im (enumW 0 (P.map fun l => tI l))) [] := by
      simp only [ev_bin, ev_cmp, ev_list, ev_tuple, ev_callH, ev_callHK, ev_callP, ev_callPK, ev_blt, ev_sub, ev_neg, ev_not, ev_and, ev_or, ev_isi, ev_int, ev_str, ev_bl, ev_non, ev_var, ev_glob, ev_cel, ev_listJ, ev_meth, ev_sortS, ev_slice, evs_cons, evs_nil, evO_none, evO_some, evC_none, evC_some, evI_ex, evI_range, evI_enum, stillW_tup, srcOf_tup, srcOf_lst, srcOf_new, put_nm, put_tp, putS_cons, putS_nil, wipe_cons, wipe_nil, List.getElem?_cons_succ, List.getElem?_cons_zero, List.set_cons_succ, List.set_cons_zero, bind_ok, noX_ok, ofO_some, fz_int, fz_bl, fz_str, fz_ref, fz_lst, fz_new, fz_tup, fz_scr, fz_non, truth_bl, Bool.not_true, Bool.not_false, bop_add, bop_sub, cop_eq_int, cop_ne_int, cop_lt_int, cop_le_int, cop_gt_int, cop_ge_int, subW, items_tup, items_lst, items_new, items_ref, itemsL_lst, itemsL_new, itemsL_ref, isCell_ref, sat_bind, sat_ok, PL]
    rw [e0, bind_ok]
    simp only
    rw [cat_lots (P := P) (i := 0)]
    · rw [bind_ok, mkNew_ok (by rw [nums_len]; have := nmb_len (i := 0) h hi; exact Nat.le_trans this (by decide))]
      rfl
    · intro j l hl
      have hl8 := (h l hl).len
      simp only [ev_bin, ev_cmp, ev_list, ev_tuple, ev_callH, ev_callHK, ev_callP, ev_callPK, ev_blt, ev_sub, ev_neg, ev_not, ev_and, ev_or, ev_isi, ev_int, ev_str, ev_bl, ev_non, ev_var, ev_glob, ev_cel, ev_listJ, ev_meth, ev_sortS, ev_slice, evs_cons, evs_nil, evO_none, evO_some, evC_none, evC_some, evI_ex, evI_range, evI_enum, stillW_tup, srcOf_tup, srcOf_lst, srcOf_new, put_nm, put_tp, putS_cons, putS_nil, wipe_cons, wipe_nil, List.getElem?_cons_succ, List.getElem?_cons_zero, List.set_cons_succ, List.set_cons_zero, bind_ok, noX_ok, ofO_some, fz_int, fz_bl, fz_str, fz_ref, fz_lst, fz_new, fz_tup, fz_scr, fz_non, truth_bl, Bool.not_true, Bool.not_false, bop_add, bop_sub, cop_eq_int, cop_ne_int, cop_lt_int, cop_le_int, cop_gt_int, cop_ge_int, subW, items_tup, items_lst, items_new, items_ref, itemsL_lst, itemsL_new, itemsL_ref, isCell_ref, sat_bind, sat_ok]
      rw [compGo_nums (p := fun _ => true) (g := fun s => .int (8 * (j : Int) + s))]
      · rw [filter_true, noX_ok]
        simp [nums, Function.comp_def]
      · intro n hn
        simp only [ev_bin, ev_cmp, ev_list, ev_tuple, ev_callH, ev_callHK, ev_callP, ev_callPK, ev_blt, ev_sub, ev_neg, ev_not, ev_and, ev_or, ev_isi, ev_int, ev_str, ev_bl, ev_non, ev_var, ev_glob, ev_cel, ev_listJ, ev_meth, ev_sortS, ev_slice, evs_cons, evs_nil, evO_none, evO_some, evC_none, evC_some, evI_ex, evI_range, evI_enum, stillW_tup, srcOf_tup, srcOf_lst, srcOf_new, put_nm, put_tp, putS_cons, putS_nil, wipe_cons, wipe_nil, List.getElem?_cons_succ, List.getElem?_cons_zero, List.set_cons_succ, List.set_cons_zero, bind_ok, noX_ok, ofO_some, fz_int, fz_bl, fz_str, fz_ref, fz_lst, fz_new, fz_tup, fz_scr, fz_non, truth_bl, Bool.not_true, Bool.not_false, bop_add, bop_sub, cop_eq_int, cop_ne_int, cop_lt_int, cop_le_int, cop_gt_int, cop_ge_int, subW, items_tup, items_lst, items_new, items_ref, itemsL_lst, itemsL_new, itemsL_ref, isCell_ref, sat_bind, sat_ok, glob1, bop_mul (a := 8) (b := (j : Int)) (.inl (big_ok (by decide) (by decide))), if_true]
  have ln := nmb_len (i := 0) h hi
  simp only [ev_bin, ev_cmp, ev_list, ev_tuple, ev_callH, ev_callHK, ev_callP, ev_callPK, ev_blt, ev_sub, ev_neg, ev_not, ev_and, ev_or, ev_isi, ev_int, ev_str, ev_bl, ev_non, ev_var, ev_glob, ev_cel, ev_listJ, ev_meth, ev_sortS, ev_slice, evs_cons, evs_nil, evO_none, evO_some, evC_none, evC_some, evI_ex, evI_range, evI_enum, stillW_tup, srcOf_tup, srcOf_lst, srcOf_new, put_nm, put_tp, putS_cons, putS_nil, wipe_cons, wipe_nil, List.getElem?_cons_succ, List.getElem?_cons_zero, List.set_cons_succ, List.set_cons_zero, bind_ok, noX_ok, ofO_some, fz_int, fz_bl, fz_str, fz_ref, fz_lst, fz_new, fz_tup, fz_scr, fz_non, truth_bl, Bool.not_true, Bool.not_false, bop_add, bop_sub, cop_eq_int, cop_ne_int, cop_lt_int, cop_le_int, cop_gt_int, cop_ge_int, subW, items_tup, items_lst, items_new, items_ref, itemsL_lst, itemsL_new, itemsL_ref, isCell_ref, sat_bind, sat_ok, e, blt_tuple_lst, mkTup_ok (show (nums (nmb 0 P)).length ≤ 100000 by rw [nums_len]; omega)]
  exact handed_tI _ _
/-! ### unlike_copies -/
theorem p_copies_of (k : Nat) {L : List Int} (hl : L.length ≤ 1000) : XX.P (k + 1) 5 [.lst (nums L)] (tP (L.map fun n => (n / 8, n % 8))) := by
  refine Ctx.P_of at_copies_of (by rfl) ?_
  show Sat (runs (XX.O k) b_copies_of [some (.lst (nums L)), none] []) _
  refine sat_cons (sat_ret ?_)
  have e := ev_compN (O := XX.O k) (ρ := [some (.lst (nums L)), none]) (cs := []) (elt := .tuple (.cons (.bin .fdiv (.var 1) (.glob "STORES")) (.cons (.bin .mod (.var 1) (.glob "STORES")) .nil))) (t := .nm 1) (it := .ex (.var 0)) (c := .none) (own := [1]) (fun _ => true) (fun n => .tup [.int (n / 8), .int (n % 8)]) (L := L) (by simp only [ev_bin, ev_cmp, ev_list, ev_tuple, ev_callH, ev_callHK, ev_callP, ev_callPK, ev_blt, ev_sub, ev_neg, ev_not, ev_and, ev_or, ev_isi, ev_int, ev_str, ev_bl, ev_non, ev_var, ev_glob, ev_cel, ev_listJ, ev_meth, ev_sortS, ev_slice, evs_cons, evs_nil, evO_none, evO_some, evC_none, evC_some, evI_ex, evI_range, evI_enum, stillW_tup, srcOf_tup, srcOf_lst, srcOf_new, put_nm, put_tp, putS_cons, putS_nil, wipe_cons, wipe_nil, List.getElem?_cons_succ, List.getElem?_cons_zero, List.set_cons_succ, List.set_cons_zero, bind_ok, noX_ok, ofO_some, fz_int, fz_bl, fz_str, fz_ref, fz_lst, fz_new, fz_tup, fz_scr, fz_non, truth_bl, Bool.not_true, Bool.not_false, bop_add, bop_sub, cop_eq_int, cop_ne_int, cop_lt_int, cop_le_int, cop_gt_int, cop_ge_int, subW, items_tup, items_lst, items_new, items_ref, itemsL_lst, itemsL_new, itemsL_ref, isCell_ref, sat_bind, sat_ok]) (by omega) (by
    intro n hn
    refine ⟨_, rfl, ?_⟩
    simp only [ev_bin, ev_cmp, ev_list, ev_tuple, ev_callH, ev_callHK, ev_callP, ev_callPK, ev_blt, ev_sub, ev_neg, ev_not, ev_and, ev_or, ev_isi, ev_int, ev_str, ev_bl, ev_non, ev_var, ev_glob, ev_cel, ev_listJ, ev_meth, ev_sortS, ev_slice, evs_cons, evs_nil, evO_none, evO_some, evC_none, evC_some, evI_ex, evI_range, evI_enum, stillW_tup, srcOf_tup, srcOf_lst, srcOf_new, put_nm, put_tp, putS_cons, putS_nil, wipe_cons, wipe_nil, List.getElem?_cons_succ, List.getElem?_cons_zero, List.set_cons_succ, List.set_cons_zero, bind_ok, noX_ok, ofO_some, fz_int, fz_bl, fz_str, fz_ref, fz_lst, fz_new, fz_tup, fz_scr, fz_non, truth_bl, Bool.not_true, Bool.not_false, bop_add, bop_sub, cop_eq_int, cop_ne_int, cop_lt_int, cop_le_int, cop_gt_int, cop_ge_int, subW, items_tup, items_lst, items_new, items_ref, itemsL_lst, itemsL_new, itemsL_ref, isCell_ref, sat_bind, sat_ok, glob1, bop_fdiv (a := n) (show (0 : Int) < 8 by decide) (by decide), bop_mod (a := n) (show (0 : Int) < 8 by decide), if_true, mkTup_ok (show [W.int (n / 8), W.int (n % 8)].length ≤ 100000 by simp)])
  rw [filter_true] at e
  have e2 : (L.map fun n => W.tup [.int (n / 8), .int (n % 8)]) = prs (L.map fun n => (n / 8, n % 8)) := by simp [prs, Function.comp_def]
  rw [e2] at e
  simp only [ev_bin, ev_cmp, ev_list, ev_tuple, ev_callH, ev_callHK, ev_callP, ev_callPK, ev_blt, ev_sub, ev_neg, ev_not, ev_and, ev_or, ev_isi, ev_int, ev_str, ev_bl, ev_non, ev_var, ev_glob, ev_cel, ev_listJ, ev_meth, ev_sortS, ev_slice, evs_cons, evs_nil, evO_none, evO_some, evC_none, evC_some, evI_ex, evI_range, evI_enum, stillW_tup, srcOf_tup, srcOf_lst, srcOf_new, put_nm, put_tp, putS_cons, putS_nil, wipe_cons, wipe_nil, List.getElem?_cons_succ, List.getElem?_cons_zero, List.set_cons_succ, List.set_cons_zero, bind_ok, noX_ok, ofO_some, fz_int, fz_bl, fz_str, fz_ref, fz_lst, fz_new, fz_tup, fz_scr, fz_non, truth_bl, Bool.not_true, Bool.not_false, bop_add, bop_sub, cop_eq_int, cop_ne_int, cop_lt_int, cop_le_int, cop_gt_int, cop_ge_int, subW, items_tup, items_lst, items_new, items_ref, itemsL_lst, itemsL_new, itemsL_ref, isCell_ref, sat_bind, sat_ok, e, blt_tuple_lst, mkTup_ok (show (prs (L.map fun n => (n / 8, n % 8))).length ≤ 100000 by simp [prs]; omega)]
  exact handed_flat (flat_tup (k := 5) (flat_prs _))
theorem p_unlike (k : Nat) {P Q : List (List Int)} (hP : Plc P) (hQ : Plc Q) (lp : P.length ≤ 40) (lq : Q.length = P.length) : XX.P (k + 2) 6 [PL P, PL Q] (.tup [tP (aln 0 P Q), tP (aln 0 Q P)]) := by
  refine Ctx.P_of at_unlike_copies (by rfl) ?_
  show Sat (runs (XX.O (k + 1)) b_unlike_copies [some (PL P), some (PL Q), none, none, none, none, none] []) _
  have c1 := (p_numbers_of k hP lp).call (cs := []) (ws := [PL P]) (derefL_cons' (flat_gd (flat_PL P)) derefL_nil')
  have c2 := (p_numbers_of k hQ (by omega)).call (cs := []) (ws := [PL Q]) (derefL_cons' (flat_gd (flat_PL Q)) derefL_nil')
  have l1 := nmb_len (i := 0) hP lp
  have l2 := nmb_len (i := 0) hQ (by omega)
  have fP : ∀ P, fz (PL P) = PL P := fun _ => rfl
  refine sat_cons (sat_set' (cs1 := []) (w := tI (nmb 0 P)) (by simp only [ev_bin, ev_cmp, ev_list, ev_tuple, ev_callH, ev_callHK, ev_callP, ev_callPK, ev_blt, ev_sub, ev_neg, ev_not, ev_and, ev_or, ev_isi, ev_int, ev_str, ev_bl, ev_non, ev_var, ev_glob, ev_cel, ev_listJ, ev_meth, ev_sortS, ev_slice, evs_cons, evs_nil, evO_none, evO_some, evC_none, evC_some, evI_ex, evI_range, evI_enum, stillW_tup, srcOf_tup, srcOf_lst, srcOf_new, put_nm, put_tp, putS_cons, putS_nil, wipe_cons, wipe_nil, List.getElem?_cons_succ, List.getElem?_cons_zero, List.set_cons_succ, List.set_cons_zero, bind_ok, noX_ok, ofO_some, fz_int, fz_bl, fz_str, fz_ref, fz_lst, fz_new, fz_tup, fz_scr, fz_non, truth_bl, Bool.not_true, Bool.not_false, bop_add, bop_sub, cop_eq_int, cop_ne_int, cop_lt_int, cop_le_int, cop_gt_int, cop_ge_int, subW, items_tup, items_lst, items_new, items_ref, itemsL_lst, itemsL_new, itemsL_ref, isCell_ref, sat_bind, sat_ok, fP, c1]) ?_)
  simp only [ev_bin, ev_cmp, ev_list, ev_tuple, ev_callH, ev_callHK, ev_callP, ev_callPK, ev_blt, ev_sub, ev_neg, ev_not, ev_and, ev_or, ev_isi, ev_int, ev_str, ev_bl, ev_non, ev_var, ev_glob, ev_cel, ev_listJ, ev_meth, ev_sortS, ev_slice, evs_cons, evs_nil, evO_none, evO_some, evC_none, evC_some, evI_ex, evI_range, evI_enum, stillW_tup, srcOf_tup, srcOf_lst, srcOf_new, put_nm, put_tp, putS_cons, putS_nil, wipe_cons, wipe_nil, List.getElem?_cons_succ, List.getElem?_cons_zero, List.set_cons_succ, List.set_cons_zero, bind_ok, noX_ok, ofO_some, fz_int, fz_bl, fz_str, fz_ref, fz_lst, fz_new, fz_tup, fz_scr, fz_non, truth_bl, Bool.not_true, Bool.not_false, bop_add, bop_sub, cop_eq_int, cop_ne_int, cop_lt_int, cop_le_int, cop_gt_int, cop_ge_int, subW, items_tup, items_lst, items_new, items_ref, itemsL_lst, itemsL_new, itemsL_ref, isCell_ref, sat_bind, sat_ok]
  refine sat_cons (sat_set' (cs1 := []) (w := tI (nmb 0 Q)) (by simp only [ev_bin, ev_cmp, ev_list, ev_tuple, ev_callH, ev_callHK, ev_callP, ev_callPK, ev_blt, ev_sub, ev_neg, ev_not, ev_and, ev_or, ev_isi, ev_int, ev_str, ev_bl, ev_non, ev_var, ev_glob, ev_cel, ev_listJ, ev_meth, ev_sortS, ev_slice, evs_cons, evs_nil, evO_none, evO_some, evC_none, evC_some, evI_ex, evI_range, evI_enum, stillW_tup, srcOf_tup, srcOf_lst, srcOf_new, put_nm, put_tp, putS_cons, putS_nil, wipe_cons, wipe_nil, List.getElem?_cons_succ, List.getElem?_cons_zero, List.set_cons_succ, List.set_cons_zero, bind_ok, noX_ok, ofO_some, fz_int, fz_bl, fz_str, fz_ref, fz_lst, fz_new, fz_tup, fz_scr, fz_non, truth_bl, Bool.not_true, Bool.not_false, bop_add, bop_sub, cop_eq_int, cop_ne_int, cop_lt_int, cop_le_int, cop_gt_int, cop_ge_int, subW, items_tup, items_lst, items_new, items_ref, itemsL_lst, itemsL_new, itemsL_ref, isCell_ref, sat_bind, sat_ok, fP, c2]) ?_)
  simp only [ev_bin, ev_cmp, ev_list, ev_tuple, ev_callH, ev_callHK, ev_callP, ev_callPK, ev_blt, ev_sub, ev_neg, ev_not, ev_and, ev_or, ev_isi, ev_int, ev_str, ev_bl, ev_non, ev_var, ev_glob, ev_cel, ev_listJ, ev_meth, ev_sortS, ev_slice, evs_cons, evs_nil, evO_none, evO_some, evC_none, evC_some, evI_ex, evI_range, evI_enum, stillW_tup, srcOf_tup, srcOf_lst, srcOf_new, put_nm, put_tp, putS_cons, putS_nil, wipe_cons, wipe_nil, List.getElem?_cons_succ, List.getElem?_cons_zero, List.set_cons_succ, List.set_cons_zero, bind_ok, noX_ok, ofO_some, fz_int, fz_bl, fz_str, fz_ref, fz_lst, fz_new, fz_tup, fz_scr, fz_non, truth_bl, Bool.not_true, Bool.not_false, bop_add, bop_sub, cop_eq_int, cop_ne_int, cop_lt_int, cop_le_int, cop_gt_int, cop_ge_int, subW, items_tup, items_lst, items_new, items_ref, itemsL_lst, itemsL_new, itemsL_ref, isCell_ref, sat_bind, sat_ok]
  refine sat_cons (sat_set' (cs1 := []) (ev_compN (L := nmb 0 P) (fun n => !((nmb 0 Q).contains n)) (fun n => .int n) (by simp only [ev_bin, ev_cmp, ev_list, ev_tuple, ev_callH, ev_callHK, ev_callP, ev_callPK, ev_blt, ev_sub, ev_neg, ev_not, ev_and, ev_or, ev_isi, ev_int, ev_str, ev_bl, ev_non, ev_var, ev_glob, ev_cel, ev_listJ, ev_meth, ev_sortS, ev_slice, evs_cons, evs_nil, evO_none, evO_some, evC_none, evC_some, evI_ex, evI_range, evI_enum, stillW_tup, srcOf_tup, srcOf_lst, srcOf_new, put_nm, put_tp, putS_cons, putS_nil, wipe_cons, wipe_nil, List.getElem?_cons_succ, List.getElem?_cons_zero, List.set_cons_succ, List.set_cons_zero, bind_ok, noX_ok, ofO_some, fz_int, fz_bl, fz_str, fz_ref, fz_lst, fz_new, fz_tup, fz_scr, fz_non, truth_bl, Bool.not_true, Bool.not_false, bop_add, bop_sub, cop_eq_int, cop_ne_int, cop_lt_int, cop_le_int, cop_gt_int, cop_ge_int, subW, items_tup, items_lst, items_new, items_ref, itemsL_lst, itemsL_new, itemsL_ref, isCell_ref, sat_bind, sat_ok]) (by omega) (by
    intro n hn
    refine ⟨_, rfl, ?_⟩
    simp only [ev_bin, ev_cmp, ev_list, ev_tuple, ev_callH, ev_callHK, ev_callP, ev_callPK, ev_blt, ev_sub, ev_neg, ev_not, ev_and, ev_or, ev_isi, ev_int, ev_str, ev_bl, ev_non, ev_var, ev_glob, ev_cel, ev_listJ, ev_meth, ev_sortS, ev_slice, evs_cons, evs_nil, evO_none, evO_some, evC_none, evC_some, evI_ex, evI_range, evI_enum, stillW_tup, srcOf_tup, srcOf_lst, srcOf_new, put_nm, put_tp, putS_cons, putS_nil, wipe_cons, wipe_nil, List.getElem?_cons_succ, List.getElem?_cons_zero, List.set_cons_succ, List.set_cons_zero, bind_ok, noX_ok, ofO_some, fz_int, fz_bl, fz_str, fz_ref, fz_lst, fz_new, fz_tup, fz_scr, fz_non, truth_bl, Bool.not_true, Bool.not_false, bop_add, bop_sub, cop_eq_int, cop_ne_int, cop_lt_int, cop_le_int, cop_gt_int, cop_ge_int, subW, items_tup, items_lst, items_new, items_ref, itemsL_lst, itemsL_new, itemsL_ref, isCell_ref, sat_bind, sat_ok, cop_notin (items_tup [] (nums (nmb 0 Q))) n]
    cases (nmb 0 Q).contains n <;> rfl)) ?_)
  simp only [ev_bin, ev_cmp, ev_list, ev_tuple, ev_callH, ev_callHK, ev_callP, ev_callPK, ev_blt, ev_sub, ev_neg, ev_not, ev_and, ev_or, ev_isi, ev_int, ev_str, ev_bl, ev_non, ev_var, ev_glob, ev_cel, ev_listJ, ev_meth, ev_sortS, ev_slice, evs_cons, evs_nil, evO_none, evO_some, evC_none, evC_some, evI_ex, evI_range, evI_enum, stillW_tup, srcOf_tup, srcOf_lst, srcOf_new, put_nm, put_tp, putS_cons, putS_nil, wipe_cons, wipe_nil, List.getElem?_cons_succ, List.getElem?_cons_zero, List.set_cons_succ, List.set_cons_zero, bind_ok, noX_ok, ofO_some, fz_int, fz_bl, fz_str, fz_ref, fz_lst, fz_new, fz_tup, fz_scr, fz_non, truth_bl, Bool.not_true, Bool.not_false, bop_add, bop_sub, cop_eq_int, cop_ne_int, cop_lt_int, cop_le_int, cop_gt_int, cop_ge_int, subW, items_tup, items_lst, items_new, items_ref, itemsL_lst, itemsL_new, itemsL_ref, isCell_ref, sat_bind, sat_ok]
  refine sat_cons (sat_set' (cs1 := []) (ev_compN (L := nmb 0 Q) (fun n => !((nmb 0 P).contains n)) (fun n => .int n) (by simp only [ev_bin, ev_cmp, ev_list, ev_tuple, ev_callH, ev_callHK, ev_callP, ev_callPK, ev_blt, ev_sub, ev_neg, ev_not, ev_and, ev_or, ev_isi, ev_int, ev_str, ev_bl, ev_non, ev_var, ev_glob, ev_cel, ev_listJ, ev_meth, ev_sortS, ev_slice, evs_cons, evs_nil, evO_none, evO_some, evC_none, evC_some, evI_ex, evI_range, evI_enum, stillW_tup, srcOf_tup, srcOf_lst, srcOf_new, put_nm, put_tp, putS_cons, putS_nil, wipe_cons, wipe_nil, List.getElem?_cons_succ, List.getElem?_cons_zero, List.set_cons_succ, List.set_cons_zero, bind_ok, noX_ok, ofO_some, fz_int, fz_bl, fz_str, fz_ref, fz_lst, fz_new, fz_tup, fz_scr, fz_non, truth_bl, Bool.not_true, Bool.not_false, bop_add, bop_sub, cop_eq_int, cop_ne_int, cop_lt_int, cop_le_int, cop_gt_int, cop_ge_int, subW, items_tup, items_lst, items_new, items_ref, itemsL_lst, itemsL_new, itemsL_ref, isCell_ref, sat_bind, sat_ok]) (by omega) (by
    intro n hn
    refine ⟨_, rfl, ?_⟩
    simp only [ev_bin, ev_cmp, ev_list, ev_tuple, ev_callH, ev_callHK, ev_callP, ev_callPK, ev_blt, ev_sub, ev_neg, ev_not, ev_and, ev_or, ev_isi, ev_int, ev_str, ev_bl, ev_non, ev_var, ev_glob, ev_cel, ev_listJ, ev_meth, ev_sortS, ev_slice, evs_cons, evs_nil, evO_none, evO_some, evC_none, evC_some, evI_ex, evI_range, evI_enum, stillW_tup, srcOf_tup, srcOf_lst, srcOf_new, put_nm, put_tp, putS_cons, putS_nil, wipe_cons, wipe_nil, List.getElem?_cons_succ, List.getElem?_cons_zero, List.set_cons_succ, List.set_cons_zero, bind_ok, noX_ok, ofO_some, fz_int, fz_bl, fz_str, fz_ref, fz_lst, fz_new, fz_tup, fz_scr, fz_non, truth_bl, Bool.not_true, Bool.not_false, bop_add, bop_sub, cop_eq_int, cop_ne_int, cop_lt_int, cop_le_int, cop_gt_int, cop_ge_int, subW, items_tup, items_lst, items_new, items_ref, itemsL_lst, itemsL_new, itemsL_ref, isCell_ref, sat_bind, sat_ok, cop_notin (items_tup [] (nums (nmb 0 P))) n]
    cases (nmb 0 P).contains n <;> rfl)) ?_)
  simp only [ev_bin, ev_cmp, ev_list, ev_tuple, ev_callH, ev_callHK, ev_callP, ev_callPK, ev_blt, ev_sub, ev_neg, ev_not, ev_and, ev_or, ev_isi, ev_int, ev_str, ev_bl, ev_non, ev_var, ev_glob, ev_cel, ev_listJ, ev_meth, ev_sortS, ev_slice, evs_cons, evs_nil, evO_none, evO_some, evC_none, evC_some, evI_ex, evI_range, evI_enum, stillW_tup, srcOf_tup, srcOf_lst, srcOf_new, put_nm, put_tp, putS_cons, putS_nil, wipe_cons, wipe_nil, List.getElem?_cons_succ, List.getElem?_cons_zero, List.set_cons_succ, List.set_cons_zero, bind_ok, noX_ok, ofO_some, fz_int, fz_bl, fz_str, fz_ref, fz_lst, fz_new, fz_tup, fz_scr, fz_non, truth_bl, Bool.not_true, Bool.not_false, bop_add, bop_sub, cop_eq_int, cop_ne_int, cop_lt_int, cop_le_int, cop_gt_int, cop_ge_int, subW, items_tup, items_lst, items_new, items_ref, itemsL_lst, itemsL_new, itemsL_ref, isCell_ref, sat_bind, sat_ok]
  refine sat_cons (sat_ret ?_)
  have n1 := List.length_filter_le (fun n => !((nmb 0 Q).contains n)) (nmb 0 P)
  have n2 := List.length_filter_le (fun n => !((nmb 0 P).contains n)) (nmb 0 Q)
  have d1 := (p_copies_of k (L := (nmb 0 P).filter fun n => !((nmb 0 Q).contains n)) (by omega)).call (cs := []) (ws := [.lst (nums ((nmb 0 P).filter fun n => !((nmb 0 Q).contains n)))]) (derefL_cons' (deref_lst _ _) derefL_nil')
  have d2 := (p_copies_of k (L := (nmb 0 Q).filter fun n => !((nmb 0 P).contains n)) (by omega)).call (cs := []) (ws := [.lst (nums ((nmb 0 Q).filter fun n => !((nmb 0 P).contains n)))]) (derefL_cons' (deref_lst _ _) derefL_nil')
  rw [unlike_aln (by omega) hP hQ] at d1
  rw [unlike_aln (by omega) hQ hP] at d2
  have z : ∀ l, fz (tP l) = tP l := fun _ => rfl
  have m1 : ∀ L : List Int, (L.map fun n => W.int n) = nums L := fun _ => rfl
  simp only [ev_bin, ev_cmp, ev_list, ev_tuple, ev_callH, ev_callHK, ev_callP, ev_callPK, ev_blt, ev_sub, ev_neg, ev_not, ev_and, ev_or, ev_isi, ev_int, ev_str, ev_bl, ev_non, ev_var, ev_glob, ev_cel, ev_listJ, ev_meth, ev_sortS, ev_slice, evs_cons, evs_nil, evO_none, evO_some, evC_none, evC_some, evI_ex, evI_range, evI_enum, stillW_tup, srcOf_tup, srcOf_lst, srcOf_new, put_nm, put_tp, putS_cons, putS_nil, wipe_cons, wipe_nil, List.getElem?_cons_succ, List.getElem?_cons_zero, List.set_cons_succ, List.set_cons_zero, bind_ok, noX_ok, ofO_some, fz_int, fz_bl, fz_str, fz_ref, fz_lst, fz_new, fz_tup, fz_scr, fz_non, truth_bl, Bool.not_true, Bool.not_false, bop_add, bop_sub, cop_eq_int, cop_ne_int, cop_lt_int, cop_le_int, cop_gt_int, cop_ge_int, subW, items_tup, items_lst, items_new, items_ref, itemsL_lst, itemsL_new, itemsL_ref, isCell_ref, sat_bind, sat_ok, m1, d1, d2, z, mkTup_ok (show [tP (aln 0 P Q), tP (aln 0 Q P)].length ≤ 100000 by simp)]
  exact handed_flat (flat_tup (k := 5) fun x hx => by
    simp only [List.mem_cons, List.not_mem_nil, or_false] at hx
    rcases hx with rfl | rfl <;> exact flat_tup (k := 4) (flat_prs _))
end K85
end S_K85f

section S_K85g
set_option Elab.async false
set_option linter.all false
set_option maxRecDepth 100000
set_option maxHeartbeats 1000000
/-! K85g: new_copies, and the law's own reading. -/
namespace K85
open Mi Ev
theorem prs_len (l : List (Int × Int)) : (prs l).length = l.length := by simp [prs]
theorem meth_extend {cs : List Ob} {n : Nat} {xs ys : List W} {a : W} (h : cellL cs n = some xs) (h2 : itemsL cs a = some ys) (hl : xs.length + ys.length ≤ 100000) : meth .extend (.ref n) [a] cs = .ok .non (cs.set n (.lst (xs ++ ys))) := by
  simp only [meth, h, h2]
  rw [if_pos (show xs.length + ys.length ≤ lim from hl)]
theorem at_drop {α : Type} {f : α → W} {L R : List α} {j : Nat} {l : α} (h : l :: R = L.drop j) : at? (L.map f) (j : Int) = some (f l) := by
  obtain ⟨e, _⟩ := drop_cons h
  have hl := (List.getElem?_eq_some_iff.mp e).1
  rw [at?, List.length_map, place_nat hl]
  show (L.map f)[j]? = _
  rw [List.getElem?_map, e]
  rfl
theorem drop_lt {α : Type} {L : List α} {j : Nat} (h : j < L.length) : ∃ l R, l :: R = L.drop j := ⟨L[j], L.drop (j + 1), (List.drop_eq_getElem_cons h).symm⟩
/-- what a lot has alone, as a comprehension -/
theorem ev_alone {O : Orc} {ρ : ME} {cs : List Ob} {l m : List Int} {i : Int} {e1 e2 x2 : Ex} {v : Nat} {own : List Nat} (hl : l.length ≤ 99999) (h1 : ev O ρ e1 cs = .ok (tI l) cs)
    (h2 : ∀ n ∈ l, ev O ((wipe ρ own).set v (some (.int n))) x2 cs = .ok (.int i) cs)
    (h3 : ∀ n ∈ l, ev O ((wipe ρ own).set v (some (.int n))) (.var v) cs = .ok (.int n) cs)
    (h4 : ∀ n ∈ l, ev O ((wipe ρ own).set v (some (.int n))) e2 cs = .ok (tI m) cs) :
    ev O ρ (.comp (.tuple (.cons x2 (.cons (.var v) .nil))) (.nm v) (.ex e1) (.some (.cmp .notin (.var v) e2)) own) cs = .ok (.new (prs ((l.filter fun s => !m.contains s).map fun s => (i, s)))) cs := by
  have e := ev_compN (O := O) (ρ := ρ) (cs := cs) (elt := .tuple (.cons x2 (.cons (.var v) .nil))) (t := .nm v) (it := .ex e1) (c := .some (.cmp .notin (.var v) e2)) (own := own) (L := l) (fun s => !m.contains s) (fun s => .tup [.int i, .int s]) (by simp only [evI_ex, h1, bind_ok, srcOf_tup, ofO_some]) hl (by
    intro n hn
    refine ⟨_, rfl, ?_⟩
    simp only [evC_some, ev_cmp, h3 n hn, h4 n hn, bind_ok, cop_notin (items_tup cs (nums m)) n, truth_bl, ofO_some]
    cases m.contains n
    · simp only [Bool.not_false, if_true, ev_tuple, evs_cons, evs_nil, h2 n hn, h3 n hn, bind_ok, fz_int, mkTup_ok (show [W.int i, W.int n].length ≤ 100000 by simp), fz_tup]
    · rfl)
  rw [e]
  simp [prs, Function.comp_def]
theorem p_new_copies (k : Nat) {P Q : List (List Int)} (hP : Plc P) (lp : P.length ≤ 40) (lq : Q.length = P.length) : XX.P (k + 1) 7 [PL Q, PL P] (tP (aln 0 P Q)) := by
  refine Ctx.P_of at_new_copies (by rfl) ?_
  show Sat (runs (XX.O k) b_new_copies [some (PL Q), some (PL P), none, none, none, none] []) _
  have la := aln_len (P := P) (Q := Q) (i := 0) hP
  refine sat_cons (sat_set ?_)
  simp only [ev_bin, ev_cmp, ev_list, ev_tuple, ev_callH, ev_callHK, ev_callP, ev_callPK, ev_blt, ev_sub, ev_neg, ev_not, ev_and, ev_or, ev_isi, ev_int, ev_str, ev_bl, ev_non, ev_var, ev_glob, ev_cel, ev_listJ, ev_meth, ev_sortS, ev_slice, evs_cons, evs_nil, evO_none, evO_some, evC_none, evC_some, evI_ex, evI_range, evI_enum, stillW_tup, srcOf_tup, srcOf_lst, srcOf_new, put_nm, put_tp, putS_cons, putS_nil, wipe_cons, wipe_nil, List.getElem?_cons_succ, List.getElem?_cons_zero, List.set_cons_succ, List.set_cons_zero, bind_ok, noX_ok, ofO_some, fz_int, fz_bl, fz_str, fz_ref, fz_lst, fz_new, fz_tup, fz_scr, fz_non, truth_bl, Bool.not_true, Bool.not_false, bop_add, bop_sub, cop_eq_int, cop_ne_int, cop_lt_int, cop_le_int, cop_gt_int, cop_ge_int, subW, items_tup, items_lst, items_new, items_ref, itemsL_lst, itemsL_new, itemsL_ref, isCell_ref, sat_bind, sat_ok, mkNew_ok (show ([] : List W).length ≤ 100000 by simp), List.length_nil, List.nil_append]
  refine sat_cons ?_
  refine sat_for (xs := enumW 0 (P.map fun l => tI l)) (by simp only [ev_bin, ev_cmp, ev_list, ev_tuple, ev_callH, ev_callHK, ev_callP, ev_callPK, ev_blt, ev_sub, ev_neg, ev_not, ev_and, ev_or, ev_isi, ev_int, ev_str, ev_bl, ev_non, ev_var, ev_glob, ev_cel, ev_listJ, ev_meth, ev_sortS, ev_slice, evs_cons, evs_nil, evO_none, evO_some, evC_none, evC_some, evI_ex, evI_range, evI_enum, stillW_tup, srcOf_tup, srcOf_lst, srcOf_new, put_nm, put_tp, putS_cons, putS_nil, wipe_cons, wipe_nil, List.getElem?_cons_succ, List.getElem?_cons_zero, List.set_cons_succ, List.set_cons_zero, bind_ok, noX_ok, ofO_some, fz_int, fz_bl, fz_str, fz_ref, fz_lst, fz_new, fz_tup, fz_scr, fz_non, truth_bl, Bool.not_true, Bool.not_false, bop_add, bop_sub, cop_eq_int, cop_ne_int, cop_lt_int, cop_le_int, cop_gt_int, cop_ge_int, subW, items_tup, items_lst, items_new, items_ref, itemsL_lst, itemsL_new, itemsL_ref, isCell_ref, sat_bind, sat_ok, PL]) (I := fun R ρ cs => ∃ (i : Nat) (P' : List (List Int)) (A : List (Int × Int)) (o o1 o2 : Option W), R = enumW i (P'.map fun l => tI l) ∧ P' = P.drop i ∧ i ≤ P.length ∧ aln 0 P Q = A ++ aln (i : Int) P' (Q.drop i) ∧ cs = [.lst (prs A)] ∧ ρ = [some (PL Q), some (PL P), some (.ref 0), o, o1, o2]) ?_ ?_ ?_
  · exact ⟨0, P, [], none, none, none, rfl, rfl, Nat.zero_le _, rfl, rfl, rfl⟩
  · rintro x R ρ cs ⟨i, P', A, o, o1, o2, hR, hP', hi, e, rfl, rfl⟩
    cases P' with
    | nil => rw [List.map_nil, enumW] at hR; exact nomatch hR
    | cons l P' =>
        rw [List.map_cons, enumW] at hR
        cases hR
        obtain ⟨h1, h2⟩ := drop_cons hP'
        have hlt := (List.getElem?_eq_some_iff.mp h1).1
        have hl := hP l (List.mem_of_getElem? h1)
        have hl8 := hl.len
        obtain ⟨m, Q', hQ'⟩ := drop_lt (L := Q) (j := i) (by omega)
        obtain ⟨h3, h4⟩ := drop_cons hQ'
        rw [← hQ', aln] at e
        have e4 : at? (Q.map fun l => tI l) (i : Int) = some (tI m) := at_drop hQ'
        simp only [ev_bin, ev_cmp, ev_list, ev_tuple, ev_callH, ev_callHK, ev_callP, ev_callPK, ev_blt, ev_sub, ev_neg, ev_not, ev_and, ev_or, ev_isi, ev_int, ev_str, ev_bl, ev_non, ev_var, ev_glob, ev_cel, ev_listJ, ev_meth, ev_sortS, ev_slice, evs_cons, evs_nil, evO_none, evO_some, evC_none, evC_some, evI_ex, evI_range, evI_enum, stillW_tup, srcOf_tup, srcOf_lst, srcOf_new, put_nm, put_tp, putS_cons, putS_nil, wipe_cons, wipe_nil, List.getElem?_cons_succ, List.getElem?_cons_zero, List.set_cons_succ, List.set_cons_zero, bind_ok, noX_ok, ofO_some, fz_int, fz_bl, fz_str, fz_ref, fz_lst, fz_new, fz_tup, fz_scr, fz_non, truth_bl, Bool.not_true, Bool.not_false, bop_add, bop_sub, cop_eq_int, cop_ne_int, cop_lt_int, cop_le_int, cop_gt_int, cop_ge_int, subW, items_tup, items_lst, items_new, items_ref, itemsL_lst, itemsL_new, itemsL_ref, isCell_ref, sat_bind, sat_ok]
        refine sat_cons (sat_ex ?_)
        have lA : A.length ≤ 8 * P.length := by
          have := congrArg List.length e
          simp only [List.length_append] at this
          omega
        have e1 := ev_alone (O := XX.O k) (ρ := [some (PL Q), some (PL P), some (.ref 0), some (.int (i : Int)), some (tI l), o2]) (cs := [.lst (prs A)]) (l := l) (m := m) (i := (i : Int)) (e1 := .var 4) (e2 := .sub (.var 0) (.var 3)) (x2 := .var 3) (v := 5) (own := [5]) (by omega) (by simp only [ev_bin, ev_cmp, ev_list, ev_tuple, ev_callH, ev_callHK, ev_callP, ev_callPK, ev_blt, ev_sub, ev_neg, ev_not, ev_and, ev_or, ev_isi, ev_int, ev_str, ev_bl, ev_non, ev_var, ev_glob, ev_cel, ev_listJ, ev_meth, ev_sortS, ev_slice, evs_cons, evs_nil, evO_none, evO_some, evC_none, evC_some, evI_ex, evI_range, evI_enum, stillW_tup, srcOf_tup, srcOf_lst, srcOf_new, put_nm, put_tp, putS_cons, putS_nil, wipe_cons, wipe_nil, List.getElem?_cons_succ, List.getElem?_cons_zero, List.set_cons_succ, List.set_cons_zero, bind_ok, noX_ok, ofO_some, fz_int, fz_bl, fz_str, fz_ref, fz_lst, fz_new, fz_tup, fz_scr, fz_non, truth_bl, Bool.not_true, Bool.not_false, bop_add, bop_sub, cop_eq_int, cop_ne_int, cop_lt_int, cop_le_int, cop_gt_int, cop_ge_int, subW, items_tup, items_lst, items_new, items_ref, itemsL_lst, itemsL_new, itemsL_ref, isCell_ref, sat_bind, sat_ok]) (by intro n hn; simp only [ev_bin, ev_cmp, ev_list, ev_tuple, ev_callH, ev_callHK, ev_callP, ev_callPK, ev_blt, ev_sub, ev_neg, ev_not, ev_and, ev_or, ev_isi, ev_int, ev_str, ev_bl, ev_non, ev_var, ev_glob, ev_cel, ev_listJ, ev_meth, ev_sortS, ev_slice, evs_cons, evs_nil, evO_none, evO_some, evC_none, evC_some, evI_ex, evI_range, evI_enum, stillW_tup, srcOf_tup, srcOf_lst, srcOf_new, put_nm, put_tp, putS_cons, putS_nil, wipe_cons, wipe_nil, List.getElem?_cons_succ, List.getElem?_cons_zero, List.set_cons_succ, List.set_cons_zero, bind_ok, noX_ok, ofO_some, fz_int, fz_bl, fz_str, fz_ref, fz_lst, fz_new, fz_tup, fz_scr, fz_non, truth_bl, Bool.not_true, Bool.not_false, bop_add, bop_sub, cop_eq_int, cop_ne_int, cop_lt_int, cop_le_int, cop_gt_int, cop_ge_int, subW, items_tup, items_lst, items_new, items_ref, itemsL_lst, itemsL_new, itemsL_ref, isCell_ref, sat_bind, sat_ok]) (by intro n hn; simp only [ev_bin, ev_cmp, ev_list, ev_tuple, ev_callH, ev_callHK, ev_callP, ev_callPK, ev_blt, ev_sub, ev_neg, ev_not, ev_and, ev_or, ev_isi, ev_int, ev_str, ev_bl, ev_non, ev_var, ev_glob, ev_cel, ev_listJ, ev_meth, ev_sortS, ev_slice, evs_cons, evs_nil, evO_none, evO_some, evC_none, evC_some, evI_ex, evI_range, evI_enum, stillW_tup, srcOf_tup, srcOf_lst, srcOf_new, put_nm, put_tp, putS_cons, putS_nil, wipe_cons, wipe_nil, List.getElem?_cons_succ, List.getElem?_cons_zero, List.set_cons_succ, List.set_cons_zero, bind_ok, noX_ok, ofO_some, fz_int, fz_bl, fz_str, fz_ref, fz_lst, fz_new, fz_tup, fz_scr, fz_non, truth_bl, Bool.not_true, Bool.not_false, bop_add, bop_sub, cop_eq_int, cop_ne_int, cop_lt_int, cop_le_int, cop_gt_int, cop_ge_int, subW, items_tup, items_lst, items_new, items_ref, itemsL_lst, itemsL_new, itemsL_ref, isCell_ref, sat_bind, sat_ok]) (by intro n hn; simp only [ev_bin, ev_cmp, ev_list, ev_tuple, ev_callH, ev_callHK, ev_callP, ev_callPK, ev_blt, ev_sub, ev_neg, ev_not, ev_and, ev_or, ev_isi, ev_int, ev_str, ev_bl, ev_non, ev_var, ev_glob, ev_cel, ev_listJ, ev_meth, ev_sortS, ev_slice, evs_cons, evs_nil, evO_none, evO_some, evC_none, evC_some, evI_ex, evI_range, evI_enum, stillW_tup, srcOf_tup, srcOf_lst, srcOf_new, put_nm, put_tp, putS_cons, putS_nil, wipe_cons, wipe_nil, List.getElem?_cons_succ, List.getElem?_cons_zero, List.set_cons_succ, List.set_cons_zero, bind_ok, noX_ok, ofO_some, fz_int, fz_bl, fz_str, fz_ref, fz_lst, fz_new, fz_tup, fz_scr, fz_non, truth_bl, Bool.not_true, Bool.not_false, bop_add, bop_sub, cop_eq_int, cop_ne_int, cop_lt_int, cop_le_int, cop_gt_int, cop_ge_int, subW, items_tup, items_lst, items_new, items_ref, itemsL_lst, itemsL_new, itemsL_ref, isCell_ref, sat_bind, sat_ok, PL, e4])
        have lf := List.length_filter_le (fun s => !m.contains s) l
        have e2 := meth_extend (cs := [.lst (prs A)]) (n := 0) (xs := prs A) (a := .lst (prs ((l.filter fun s => !m.contains s).map fun s => ((i : Int), s)))) rfl (itemsL_lst _ _) (by rw [prs_len, prs_len, List.length_map]; omega)
        simp only [ev_bin, ev_cmp, ev_list, ev_tuple, ev_callH, ev_callHK, ev_callP, ev_callPK, ev_blt, ev_sub, ev_neg, ev_not, ev_and, ev_or, ev_isi, ev_int, ev_str, ev_bl, ev_non, ev_var, ev_glob, ev_cel, ev_listJ, ev_meth, ev_sortS, ev_slice, evs_cons, evs_nil, evO_none, evO_some, evC_none, evC_some, evI_ex, evI_range, evI_enum, stillW_tup, srcOf_tup, srcOf_lst, srcOf_new, put_nm, put_tp, putS_cons, putS_nil, wipe_cons, wipe_nil, List.getElem?_cons_succ, List.getElem?_cons_zero, List.set_cons_succ, List.set_cons_zero, bind_ok, noX_ok, ofO_some, fz_int, fz_bl, fz_str, fz_ref, fz_lst, fz_new, fz_tup, fz_scr, fz_non, truth_bl, Bool.not_true, Bool.not_false, bop_add, bop_sub, cop_eq_int, cop_ne_int, cop_lt_int, cop_le_int, cop_gt_int, cop_ge_int, subW, items_tup, items_lst, items_new, items_ref, itemsL_lst, itemsL_new, itemsL_ref, isCell_ref, sat_bind, sat_ok, show cellL [.lst (prs A)] 0 = some (prs A) from rfl, Option.isSome_some, if_true, e1, e2]
        refine sat_nil ⟨i + 1, P', A ++ (l.filter fun s => !m.contains s).map fun s => ((i : Int), s), _, _, _, rfl, h2, hlt, ?_, by rw [← prs_app], rfl⟩
        rw [e, h4, List.append_assoc]
        rfl
  · rintro ρ cs ⟨i, P', A, o, o1, o2, hR, hP', hi, e, rfl, rfl⟩
    cases P' with
    | cons l P' => rw [List.map_cons, enumW] at hR; exact nomatch hR
    | nil =>
        have e0 : aln (i : Int) [] (Q.drop i) = [] := by cases Q.drop i <;> simp [aln]
        rw [e0, List.append_nil] at e
        refine sat_cons (sat_ret ?_)
        simp only [ev_bin, ev_cmp, ev_list, ev_tuple, ev_callH, ev_callHK, ev_callP, ev_callPK, ev_blt, ev_sub, ev_neg, ev_not, ev_and, ev_or, ev_isi, ev_int, ev_str, ev_bl, ev_non, ev_var, ev_glob, ev_cel, ev_listJ, ev_meth, ev_sortS, ev_slice, evs_cons, evs_nil, evO_none, evO_some, evC_none, evC_some, evI_ex, evI_range, evI_enum, stillW_tup, srcOf_tup, srcOf_lst, srcOf_new, put_nm, put_tp, putS_cons, putS_nil, wipe_cons, wipe_nil, List.getElem?_cons_succ, List.getElem?_cons_zero, List.set_cons_succ, List.set_cons_zero, bind_ok, noX_ok, ofO_some, fz_int, fz_bl, fz_str, fz_ref, fz_lst, fz_new, fz_tup, fz_scr, fz_non, truth_bl, Bool.not_true, Bool.not_false, bop_add, bop_sub, cop_eq_int, cop_ne_int, cop_lt_int, cop_le_int, cop_gt_int, cop_ge_int, subW, items_tup, items_lst, items_new, items_ref, itemsL_lst, itemsL_new, itemsL_ref, isCell_ref, sat_bind, sat_ok, blt_tuple_ref (show cellL [.lst (prs A)] 0 = some (prs A) from rfl), mkTup_ok (show (prs A).length ≤ 100000 by rw [← e]; simp [prs]; omega)]
        rw [e]
        exact handed_flat (flat_tup (k := 5) (flat_prs _))
theorem bop_addLL {cs : List Ob} {xs ys : List W} (h : xs.length + ys.length ≤ 100000) : bop .add (.lst xs) (.new ys) cs = .ok (.new (xs ++ ys)) cs := by
  show (match itemsL cs (.lst xs), itemsL cs (.new ys) with
    | some xs, some ys => mkNew (xs ++ ys) cs
    | _, _ => .bad) = _
  rw [itemsL_lst, itemsL_new]
  exact mkNew_ok (by rw [List.length_append]; exact h)
theorem p_law_alone (k : Nat) {P Q : List (List Int)} (hP : Plc P) (lp : P.length ≤ 40) (lq : Q.length = P.length) : XX.P (k + 1) 16 [PL P, PL Q] (tP (aln 0 P Q)) := by
  refine Ctx.P_of at_law_alone (by rfl) ?_
  show Sat (runs (XX.O k) b_law_alone [some (PL P), some (PL Q), none, none, none] []) _
  have la := aln_len (P := P) (Q := Q) (i := 0) hP
  refine sat_cons (sat_set ?_)
  simp only [ev_bin, ev_cmp, ev_list, ev_tuple, ev_callH, ev_callHK, ev_callP, ev_callPK, ev_blt, ev_sub, ev_neg, ev_not, ev_and, ev_or, ev_isi, ev_int, ev_str, ev_bl, ev_non, ev_var, ev_glob, ev_cel, ev_listJ, ev_meth, ev_sortS, ev_slice, evs_cons, evs_nil, evO_none, evO_some, evC_none, evC_some, evI_ex, evI_range, evI_enum, stillW_tup, srcOf_tup, srcOf_lst, srcOf_new, put_nm, put_tp, putS_cons, putS_nil, wipe_cons, wipe_nil, List.getElem?_cons_succ, List.getElem?_cons_zero, List.set_cons_succ, List.set_cons_zero, bind_ok, noX_ok, ofO_some, fz_int, fz_bl, fz_str, fz_ref, fz_lst, fz_new, fz_tup, fz_scr, fz_non, truth_bl, Bool.not_true, Bool.not_false, bop_add, bop_sub, cop_eq_int, cop_ne_int, cop_lt_int, cop_le_int, cop_gt_int, cop_ge_int, subW, items_tup, items_lst, items_new, items_ref, itemsL_lst, itemsL_new, itemsL_ref, isCell_ref, sat_bind, sat_ok, mkNew_ok (show ([] : List W).length ≤ 100000 by simp)]
  refine sat_cons ?_
  refine sat_for_ix (xs := rangeI 0 P.length) (by simp only [ev_bin, ev_cmp, ev_list, ev_tuple, ev_callH, ev_callHK, ev_callP, ev_callPK, ev_blt, ev_sub, ev_neg, ev_not, ev_and, ev_or, ev_isi, ev_int, ev_str, ev_bl, ev_non, ev_var, ev_glob, ev_cel, ev_listJ, ev_meth, ev_sortS, ev_slice, evs_cons, evs_nil, evO_none, evO_some, evC_none, evC_some, evI_ex, evI_range, evI_enum, stillW_tup, srcOf_tup, srcOf_lst, srcOf_new, put_nm, put_tp, putS_cons, putS_nil, wipe_cons, wipe_nil, List.getElem?_cons_succ, List.getElem?_cons_zero, List.set_cons_succ, List.set_cons_zero, bind_ok, noX_ok, ofO_some, fz_int, fz_bl, fz_str, fz_ref, fz_lst, fz_new, fz_tup, fz_scr, fz_non, truth_bl, Bool.not_true, Bool.not_false, bop_add, bop_sub, cop_eq_int, cop_ne_int, cop_lt_int, cop_le_int, cop_gt_int, cop_ge_int, subW, items_tup, items_lst, items_new, items_ref, itemsL_lst, itemsL_new, itemsL_ref, isCell_ref, sat_bind, sat_ok, PL, blt_len_tup, List.length_map, rangeW_n (show P.length ≤ 99999 by omega)]) (I := fun i ρ cs => ∃ (A : List (Int × Int)) (o o1 : Option W), aln 0 P Q = A ++ aln (i : Int) (P.drop i) (Q.drop i) ∧ cs = [] ∧ ρ = [some (PL P), some (PL Q), some (.lst (prs A)), o, o1]) ?_ ?_ ?_
  · exact ⟨[], none, none, rfl, rfl, rfl⟩
  · rintro i x ρ cs hx ⟨A, o, o1, e, rfl, rfl⟩
    obtain ⟨hi, rfl⟩ := rangeI_get hx
    obtain ⟨l, P', hP'⟩ := drop_lt (L := P) hi
    obtain ⟨m, Q', hQ'⟩ := drop_lt (L := Q) (j := i) (by omega)
    obtain ⟨h1, h2⟩ := drop_cons hP'
    obtain ⟨h3, h4⟩ := drop_cons hQ'
    have hl8 := (hP l (List.mem_of_getElem? h1)).len
    rw [← hP', ← hQ', aln] at e
    have e4 : at? (Q.map fun l => tI l) (i : Int) = some (tI m) := at_drop hQ'
    have e5 : at? (P.map fun l => tI l) (i : Int) = some (tI l) := at_drop hP'
    rw [Int.zero_add]
    simp only [ev_bin, ev_cmp, ev_list, ev_tuple, ev_callH, ev_callHK, ev_callP, ev_callPK, ev_blt, ev_sub, ev_neg, ev_not, ev_and, ev_or, ev_isi, ev_int, ev_str, ev_bl, ev_non, ev_var, ev_glob, ev_cel, ev_listJ, ev_meth, ev_sortS, ev_slice, evs_cons, evs_nil, evO_none, evO_some, evC_none, evC_some, evI_ex, evI_range, evI_enum, stillW_tup, srcOf_tup, srcOf_lst, srcOf_new, put_nm, put_tp, putS_cons, putS_nil, wipe_cons, wipe_nil, List.getElem?_cons_succ, List.getElem?_cons_zero, List.set_cons_succ, List.set_cons_zero, bind_ok, noX_ok, ofO_some, fz_int, fz_bl, fz_str, fz_ref, fz_lst, fz_new, fz_tup, fz_scr, fz_non, truth_bl, Bool.not_true, Bool.not_false, bop_add, bop_sub, cop_eq_int, cop_ne_int, cop_lt_int, cop_le_int, cop_gt_int, cop_ge_int, subW, items_tup, items_lst, items_new, items_ref, itemsL_lst, itemsL_new, itemsL_ref, isCell_ref, sat_bind, sat_ok]
    refine sat_cons (sat_set ?_)
    have lA : A.length ≤ 8 * P.length := by
      have := congrArg List.length e
      simp only [List.length_append] at this
      omega
    have e1 := ev_alone (O := XX.O k) (ρ := [some (PL P), some (PL Q), some (.lst (prs A)), some (.int (i : Int)), o1]) (cs := []) (l := l) (m := m) (i := (i : Int)) (e1 := .sub (.var 0) (.var 3)) (e2 := .sub (.var 1) (.var 3)) (x2 := .var 3) (v := 4) (own := [4]) (by omega) (by simp only [ev_bin, ev_cmp, ev_list, ev_tuple, ev_callH, ev_callHK, ev_callP, ev_callPK, ev_blt, ev_sub, ev_neg, ev_not, ev_and, ev_or, ev_isi, ev_int, ev_str, ev_bl, ev_non, ev_var, ev_glob, ev_cel, ev_listJ, ev_meth, ev_sortS, ev_slice, evs_cons, evs_nil, evO_none, evO_some, evC_none, evC_some, evI_ex, evI_range, evI_enum, stillW_tup, srcOf_tup, srcOf_lst, srcOf_new, put_nm, put_tp, putS_cons, putS_nil, wipe_cons, wipe_nil, List.getElem?_cons_succ, List.getElem?_cons_zero, List.set_cons_succ, List.set_cons_zero, bind_ok, noX_ok, ofO_some, fz_int, fz_bl, fz_str, fz_ref, fz_lst, fz_new, fz_tup, fz_scr, fz_non, truth_bl, Bool.not_true, Bool.not_false, bop_add, bop_sub, cop_eq_int, cop_ne_int, cop_lt_int, cop_le_int, cop_gt_int, cop_ge_int, subW, items_tup, items_lst, items_new, items_ref, itemsL_lst, itemsL_new, itemsL_ref, isCell_ref, sat_bind, sat_ok, PL, e5]) (by intro n hn; simp only [ev_bin, ev_cmp, ev_list, ev_tuple, ev_callH, ev_callHK, ev_callP, ev_callPK, ev_blt, ev_sub, ev_neg, ev_not, ev_and, ev_or, ev_isi, ev_int, ev_str, ev_bl, ev_non, ev_var, ev_glob, ev_cel, ev_listJ, ev_meth, ev_sortS, ev_slice, evs_cons, evs_nil, evO_none, evO_some, evC_none, evC_some, evI_ex, evI_range, evI_enum, stillW_tup, srcOf_tup, srcOf_lst, srcOf_new, put_nm, put_tp, putS_cons, putS_nil, wipe_cons, wipe_nil, List.getElem?_cons_succ, List.getElem?_cons_zero, List.set_cons_succ, List.set_cons_zero, bind_ok, noX_ok, ofO_some, fz_int, fz_bl, fz_str, fz_ref, fz_lst, fz_new, fz_tup, fz_scr, fz_non, truth_bl, Bool.not_true, Bool.not_false, bop_add, bop_sub, cop_eq_int, cop_ne_int, cop_lt_int, cop_le_int, cop_gt_int, cop_ge_int, subW, items_tup, items_lst, items_new, items_ref, itemsL_lst, itemsL_new, itemsL_ref, isCell_ref, sat_bind, sat_ok]) (by intro n hn; simp only [ev_bin, ev_cmp, ev_list, ev_tuple, ev_callH, ev_callHK, ev_callP, ev_callPK, ev_blt, ev_sub, ev_neg, ev_not, ev_and, ev_or, ev_isi, ev_int, ev_str, ev_bl, ev_non, ev_var, ev_glob, ev_cel, ev_listJ, ev_meth, ev_sortS, ev_slice, evs_cons, evs_nil, evO_none, evO_some, evC_none, evC_some, evI_ex, evI_range, evI_enum, stillW_tup, srcOf_tup, srcOf_lst, srcOf_new, put_nm, put_tp, putS_cons, putS_nil, wipe_cons, wipe_nil, List.getElem?_cons_succ, List.getElem?_cons_zero, List.set_cons_succ, List.set_cons_zero, bind_ok, noX_ok, ofO_some, fz_int, fz_bl, fz_str, fz_ref, fz_lst, fz_new, fz_tup, fz_scr, fz_non, truth_bl, Bool.not_true, Bool.not_false, bop_add, bop_sub, cop_eq_int, cop_ne_int, cop_lt_int, cop_le_int, cop_gt_int, cop_ge_int, subW, items_tup, items_lst, items_new, items_ref, itemsL_lst, itemsL_new, itemsL_ref, isCell_ref, sat_bind, sat_ok]) (by intro n hn; simp only [ev_bin, ev_cmp, ev_list, ev_tuple, ev_callH, ev_callHK, ev_callP, ev_callPK, ev_blt, ev_sub, ev_neg, ev_not, ev_and, ev_or, ev_isi, ev_int, ev_str, ev_bl, ev_non, ev_var, ev_glob, ev_cel, ev_listJ, ev_meth, ev_sortS, ev_slice, evs_cons, evs_nil, evO_none, evO_some, evC_none, evC_some, evI_ex, evI_range, evI_enum, stillW_tup, srcOf_tup, srcOf_lst, srcOf_new, put_nm, put_tp, putS_cons, putS_nil, wipe_cons, wipe_nil, List.getElem?_cons_succ, List.getElem?_cons_zero, List.set_cons_succ, List.set_cons_zero, bind_ok, noX_ok, ofO_some, fz_int, fz_bl, fz_str, fz_ref, fz_lst, fz_new, fz_tup, fz_scr, fz_non, truth_bl, Bool.not_true, Bool.not_false, bop_add, bop_sub, cop_eq_int, cop_ne_int, cop_lt_int, cop_le_int, cop_gt_int, cop_ge_int, subW, items_tup, items_lst, items_new, items_ref, itemsL_lst, itemsL_new, itemsL_ref, isCell_ref, sat_bind, sat_ok, PL, e4])
    have lf := List.length_filter_le (fun s => !m.contains s) l
    simp only [ev_bin, ev_cmp, ev_list, ev_tuple, ev_callH, ev_callHK, ev_callP, ev_callPK, ev_blt, ev_sub, ev_neg, ev_not, ev_and, ev_or, ev_isi, ev_int, ev_str, ev_bl, ev_non, ev_var, ev_glob, ev_cel, ev_listJ, ev_meth, ev_sortS, ev_slice, evs_cons, evs_nil, evO_none, evO_some, evC_none, evC_some, evI_ex, evI_range, evI_enum, stillW_tup, srcOf_tup, srcOf_lst, srcOf_new, put_nm, put_tp, putS_cons, putS_nil, wipe_cons, wipe_nil, List.getElem?_cons_succ, List.getElem?_cons_zero, List.set_cons_succ, List.set_cons_zero, bind_ok, noX_ok, ofO_some, fz_int, fz_bl, fz_str, fz_ref, fz_lst, fz_new, fz_tup, fz_scr, fz_non, truth_bl, Bool.not_true, Bool.not_false, bop_add, bop_sub, cop_eq_int, cop_ne_int, cop_lt_int, cop_le_int, cop_gt_int, cop_ge_int, subW, items_tup, items_lst, items_new, items_ref, itemsL_lst, itemsL_new, itemsL_ref, isCell_ref, sat_bind, sat_ok, e1, bop_addLL (cs := []) (xs := prs A) (ys := prs ((l.filter fun s => !m.contains s).map fun s => ((i : Int), s))) (by rw [prs_len, prs_len, List.length_map]; omega)]
    refine sat_nil ⟨A ++ (l.filter fun s => !m.contains s).map fun s => ((i : Int), s), _, _, ?_, rfl, by rw [prs_app]⟩
    rw [e, h2, h4, List.append_assoc]
    rfl
  · rintro ρ cs ⟨A, o, o1, e, rfl, rfl⟩
    rw [rangeI_len, List.drop_length] at e
    have e0 : aln (P.length : Int) [] (Q.drop P.length) = [] := by cases Q.drop P.length <;> simp [aln]
    rw [e0, List.append_nil] at e
    refine sat_cons (sat_ret ?_)
    simp only [ev_bin, ev_cmp, ev_list, ev_tuple, ev_callH, ev_callHK, ev_callP, ev_callPK, ev_blt, ev_sub, ev_neg, ev_not, ev_and, ev_or, ev_isi, ev_int, ev_str, ev_bl, ev_non, ev_var, ev_glob, ev_cel, ev_listJ, ev_meth, ev_sortS, ev_slice, evs_cons, evs_nil, evO_none, evO_some, evC_none, evC_some, evI_ex, evI_range, evI_enum, stillW_tup, srcOf_tup, srcOf_lst, srcOf_new, put_nm, put_tp, putS_cons, putS_nil, wipe_cons, wipe_nil, List.getElem?_cons_succ, List.getElem?_cons_zero, List.set_cons_succ, List.set_cons_zero, bind_ok, noX_ok, ofO_some, fz_int, fz_bl, fz_str, fz_ref, fz_lst, fz_new, fz_tup, fz_scr, fz_non, truth_bl, Bool.not_true, Bool.not_false, bop_add, bop_sub, cop_eq_int, cop_ne_int, cop_lt_int, cop_le_int, cop_gt_int, cop_ge_int, subW, items_tup, items_lst, items_new, items_ref, itemsL_lst, itemsL_new, itemsL_ref, isCell_ref, sat_bind, sat_ok, blt_tuple_lst, mkTup_ok (show (prs A).length ≤ 100000 by rw [← e]; simp [prs]; omega)]
    rw [e]
    exact handed_flat (flat_tup (k := 5) (flat_prs _))
theorem p_law_numbers (k : Nat) {P : List (List Int)} (hP : Plc P) (lp : P.length ≤ 40) : XX.P (k + 1) 14 [PL P] (tI (nmb 0 P)) := by
  refine Ctx.P_of at_law_numbers (by rfl) ?_
  show Sat (runs (XX.O k) b_law_numbers [some (PL P), none, none, none] []) _
  have ln := nmb_len (i := 0) hP lp
  refine sat_cons (sat_set ?_)
  simp only [ev_bin, ev_cmp, ev_list, ev_tuple, ev_callH, ev_callHK, ev_callP, ev_callPK, ev_blt, ev_sub, ev_neg, ev_not, ev_and, ev_or, ev_isi, ev_int, ev_str, ev_bl, ev_non, ev_var, ev_glob, ev_cel, ev_listJ, ev_meth, ev_sortS, ev_slice, evs_cons, evs_nil, evO_none, evO_some, evC_none, evC_some, evI_ex, evI_range, evI_enum, stillW_tup, srcOf_tup, srcOf_lst, srcOf_new, put_nm, put_tp, putS_cons, putS_nil, wipe_cons, wipe_nil, List.getElem?_cons_succ, List.getElem?_cons_zero, List.set_cons_succ, List.set_cons_zero, bind_ok, noX_ok, ofO_some, fz_int, fz_bl, fz_str, fz_ref, fz_lst, fz_new, fz_tup, fz_scr, fz_non, truth_bl, Bool.not_true, Bool.not_false, bop_add, bop_sub, cop_eq_int, cop_ne_int, cop_lt_int, cop_le_int, cop_gt_int, cop_ge_int, subW, items_tup, items_lst, items_new, items_ref, itemsL_lst, itemsL_new, itemsL_ref, isCell_ref, sat_bind, sat_ok, mkNew_ok (show ([] : List W).length ≤ 100000 by simp)]
  refine sat_cons ?_
  refine sat_for_ix (xs := rangeI 0 P.length) (by simp only [ev_bin, ev_cmp, ev_list, ev_tuple, ev_callH, ev_callHK, ev_callP, ev_callPK, ev_blt, ev_sub, ev_neg, ev_not, ev_and, ev_or, ev_isi, ev_int, ev_str, ev_bl, ev_non, ev_var, ev_glob, ev_cel, ev_listJ, ev_meth, ev_sortS, ev_slice, evs_cons, evs_nil, evO_none, evO_some, evC_none, evC_some, evI_ex, evI_range, evI_enum, stillW_tup, srcOf_tup, srcOf_lst, srcOf_new, put_nm, put_tp, putS_cons, putS_nil, wipe_cons, wipe_nil, List.getElem?_cons_succ, List.getElem?_cons_zero, List.set_cons_succ, List.set_cons_zero, bind_ok, noX_ok, ofO_some, fz_int, fz_bl, fz_str, fz_ref, fz_lst, fz_new, fz_tup, fz_scr, fz_non, truth_bl, Bool.not_true, Bool.not_false, bop_add, bop_sub, cop_eq_int, cop_ne_int, cop_lt_int, cop_le_int, cop_gt_int, cop_ge_int, subW, items_tup, items_lst, items_new, items_ref, itemsL_lst, itemsL_new, itemsL_ref, isCell_ref, sat_bind, sat_ok, PL, blt_len_tup, List.length_map, rangeW_n (show P.length ≤ 99999 by omega)]) (I := fun i ρ cs => ∃ (A : List Int) (o o1 : Option W), nmb 0 P = A ++ nmb (i : Int) (P.drop i) ∧ cs = [] ∧ ρ = [some (PL P), some (.lst (nums A)), o, o1]) ?_ ?_ ?_
  · exact ⟨[], none, none, rfl, rfl, rfl⟩
  · rintro i x ρ cs hx ⟨A, o, o1, e, rfl, rfl⟩
    obtain ⟨hi, rfl⟩ := rangeI_get hx
    obtain ⟨l, P', hP'⟩ := drop_lt (L := P) hi
    obtain ⟨h1, h2⟩ := drop_cons hP'
    have hl8 := (hP l (List.mem_of_getElem? h1)).len
    rw [← hP', nmb] at e
    have e5 : at? (P.map fun l => tI l) (i : Int) = some (tI l) := at_drop hP'
    rw [Int.zero_add]
    simp only [ev_bin, ev_cmp, ev_list, ev_tuple, ev_callH, ev_callHK, ev_callP, ev_callPK, ev_blt, ev_sub, ev_neg, ev_not, ev_and, ev_or, ev_isi, ev_int, ev_str, ev_bl, ev_non, ev_var, ev_glob, ev_cel, ev_listJ, ev_meth, ev_sortS, ev_slice, evs_cons, evs_nil, evO_none, evO_some, evC_none, evC_some, evI_ex, evI_range, evI_enum, stillW_tup, srcOf_tup, srcOf_lst, srcOf_new, put_nm, put_tp, putS_cons, putS_nil, wipe_cons, wipe_nil, List.getElem?_cons_succ, List.getElem?_cons_zero, List.set_cons_succ, List.set_cons_zero, bind_ok, noX_ok, ofO_some, fz_int, fz_bl, fz_str, fz_ref, fz_lst, fz_new, fz_tup, fz_scr, fz_non, truth_bl, Bool.not_true, Bool.not_false, bop_add, bop_sub, cop_eq_int, cop_ne_int, cop_lt_int, cop_le_int, cop_gt_int, cop_ge_int, subW, items_tup, items_lst, items_new, items_ref, itemsL_lst, itemsL_new, itemsL_ref, isCell_ref, sat_bind, sat_ok]
    refine sat_cons (sat_set ?_)
    have lA : A.length ≤ 320 := by
      have := congrArg List.length e
      simp only [List.length_append] at this
      omega
    have e1 := ev_compN (O := XX.O k) (ρ := [some (PL P), some (.lst (nums A)), some (.int (i : Int)), o1]) (cs := []) (elt := .bin .add (.bin .mul (.int 8) (.var 2)) (.var 3)) (t := .nm 3) (it := .ex (.sub (.var 0) (.var 2))) (c := .none) (own := [3]) (L := l) (fun _ => true) (fun s => .int (8 * (i : Int) + s)) (by simp only [ev_bin, ev_cmp, ev_list, ev_tuple, ev_callH, ev_callHK, ev_callP, ev_callPK, ev_blt, ev_sub, ev_neg, ev_not, ev_and, ev_or, ev_isi, ev_int, ev_str, ev_bl, ev_non, ev_var, ev_glob, ev_cel, ev_listJ, ev_meth, ev_sortS, ev_slice, evs_cons, evs_nil, evO_none, evO_some, evC_none, evC_some, evI_ex, evI_range, evI_enum, stillW_tup, srcOf_tup, srcOf_lst, srcOf_new, put_nm, put_tp, putS_cons, putS_nil, wipe_cons, wipe_nil, List.getElem?_cons_succ, List.getElem?_cons_zero, List.set_cons_succ, List.set_cons_zero, bind_ok, noX_ok, ofO_some, fz_int, fz_bl, fz_str, fz_ref, fz_lst, fz_new, fz_tup, fz_scr, fz_non, truth_bl, Bool.not_true, Bool.not_false, bop_add, bop_sub, cop_eq_int, cop_ne_int, cop_lt_int, cop_le_int, cop_gt_int, cop_ge_int, subW, items_tup, items_lst, items_new, items_ref, itemsL_lst, itemsL_new, itemsL_ref, isCell_ref, sat_bind, sat_ok, PL, e5]) (by omega) (by
      intro n hn
      refine ⟨_, rfl, ?_⟩
      simp only [ev_bin, ev_cmp, ev_list, ev_tuple, ev_callH, ev_callHK, ev_callP, ev_callPK, ev_blt, ev_sub, ev_neg, ev_not, ev_and, ev_or, ev_isi, ev_int, ev_str, ev_bl, ev_non, ev_var, ev_glob, ev_cel, ev_listJ, ev_meth, ev_sortS, ev_slice, evs_cons, evs_nil, evO_none, evO_some, evC_none, evC_some, evI_ex, evI_range, evI_enum, stillW_tup, srcOf_tup, srcOf_lst, srcOf_new, put_nm, put_tp, putS_cons, putS_nil, wipe_cons, wipe_nil, List.getElem?_cons_succ, List.getElem?_cons_zero, List.set_cons_succ, List.set_cons_zero, bind_ok, noX_ok, ofO_some, fz_int, fz_bl, fz_str, fz_ref, fz_lst, fz_new, fz_tup, fz_scr, fz_non, truth_bl, Bool.not_true, Bool.not_false, bop_add, bop_sub, cop_eq_int, cop_ne_int, cop_lt_int, cop_le_int, cop_gt_int, cop_ge_int, subW, items_tup, items_lst, items_new, items_ref, itemsL_lst, itemsL_new, itemsL_ref, isCell_ref, sat_bind, sat_ok, bop_mul (a := 8) (b := (i : Int)) (.inl (big_ok (by decide) (by decide))), if_true])
    rw [filter_true] at e1
    have e2 : (l.map fun s => W.int (8 * (i : Int) + s)) = nums (l.map fun s => 8 * (i : Int) + s) := by simp [nums, Function.comp_def]
    rw [e2] at e1
    simp only [ev_bin, ev_cmp, ev_list, ev_tuple, ev_callH, ev_callHK, ev_callP, ev_callPK, ev_blt, ev_sub, ev_neg, ev_not, ev_and, ev_or, ev_isi, ev_int, ev_str, ev_bl, ev_non, ev_var, ev_glob, ev_cel, ev_listJ, ev_meth, ev_sortS, ev_slice, evs_cons, evs_nil, evO_none, evO_some, evC_none, evC_some, evI_ex, evI_range, evI_enum, stillW_tup, srcOf_tup, srcOf_lst, srcOf_new, put_nm, put_tp, putS_cons, putS_nil, wipe_cons, wipe_nil, List.getElem?_cons_succ, List.getElem?_cons_zero, List.set_cons_succ, List.set_cons_zero, bind_ok, noX_ok, ofO_some, fz_int, fz_bl, fz_str, fz_ref, fz_lst, fz_new, fz_tup, fz_scr, fz_non, truth_bl, Bool.not_true, Bool.not_false, bop_add, bop_sub, cop_eq_int, cop_ne_int, cop_lt_int, cop_le_int, cop_gt_int, cop_ge_int, subW, items_tup, items_lst, items_new, items_ref, itemsL_lst, itemsL_new, itemsL_ref, isCell_ref, sat_bind, sat_ok, e1, bop_addLL (cs := []) (xs := nums A) (ys := nums (l.map fun s => 8 * (i : Int) + s)) (by simp; omega)]
    refine sat_nil ⟨A ++ l.map fun s => 8 * (i : Int) + s, _, _, ?_, rfl, by rw [nums_app]⟩
    rw [e, h2, List.append_assoc]
    rfl
  · rintro ρ cs ⟨A, o, o1, e, rfl, rfl⟩
    rw [rangeI_len, List.drop_length, nmb, List.append_nil] at e
    refine sat_cons (sat_ret ?_)
    simp only [ev_bin, ev_cmp, ev_list, ev_tuple, ev_callH, ev_callHK, ev_callP, ev_callPK, ev_blt, ev_sub, ev_neg, ev_not, ev_and, ev_or, ev_isi, ev_int, ev_str, ev_bl, ev_non, ev_var, ev_glob, ev_cel, ev_listJ, ev_meth, ev_sortS, ev_slice, evs_cons, evs_nil, evO_none, evO_some, evC_none, evC_some, evI_ex, evI_range, evI_enum, stillW_tup, srcOf_tup, srcOf_lst, srcOf_new, put_nm, put_tp, putS_cons, putS_nil, wipe_cons, wipe_nil, List.getElem?_cons_succ, List.getElem?_cons_zero, List.set_cons_succ, List.set_cons_zero, bind_ok, noX_ok, ofO_some, fz_int, fz_bl, fz_str, fz_ref, fz_lst, fz_new, fz_tup, fz_scr, fz_non, truth_bl, Bool.not_true, Bool.not_false, bop_add, bop_sub, cop_eq_int, cop_ne_int, cop_lt_int, cop_le_int, cop_gt_int, cop_ge_int, subW, items_tup, items_lst, items_new, items_ref, itemsL_lst, itemsL_new, itemsL_ref, isCell_ref, sat_bind, sat_ok, blt_tuple_lst, mkTup_ok (show (nums A).length ≤ 100000 by rw [← e, nums_len]; omega)]
    rw [e]
    exact handed_tI _ _
end K85
end S_K85g

section S_K85p
set_option Elab.async false
set_option linter.all false
set_option maxRecDepth 100000
set_option maxHeartbeats 1000000
/-! K85p: placing_of, the law's reading of it, what is asked of it. -/
namespace K85
open Mi Ev
def refs (n : Nat) : List W := (List.range n).map W.ref
theorem refs_succ (n : Nat) : refs (n + 1) = refs n ++ [.ref n] := by simp [refs, List.range_succ]
theorem refs_at {n p : Nat} (h : p < n) : at? (refs n) (p : Int) = some (.ref p) := by
  rw [at?, show (refs n).length = n by simp [refs], place_nat h]
  show (refs n)[p]? = _
  rw [refs, List.getElem?_map, List.getElem?_range h]
  rfl
theorem div8 {x : Int} {n : Nat} (h : 0 ≤ x ∧ x < 8 * (n : Int)) : ∃ p : Nat, p < n ∧ x / 8 = (p : Int) := ⟨(x / 8).toNat, by omega, by omega⟩
theorem lotAt_len (L : List Int) (p : Int) : (lotAt L p).length ≤ L.length := by
  rw [lotAt, List.length_map]
  exact List.length_filter_le _ _
theorem p_law_placed (k : Nat) {n : Nat} {row : List Int} (hn : n ≤ 40) (hl : row.length ≤ 320) (h : ∀ x ∈ row, 0 ≤ x ∧ x < 8 * (n : Int)) : XX.P (k + 1) 15 [.int (n : Int), tI row] (PL (plc n row)) := by
  refine Ctx.P_of at_law_placed (by rfl) ?_
  show Sat (runs (XX.O k) b_law_placed [some (.int (n : Int)), some (tI row), none, none, none, none] []) _
  refine sat_cons (sat_set ?_)
  refine sat_comp_ix (xs := rangeI 0 n) (cs := []) (by simp only [ev_bin, ev_cmp, ev_list, ev_tuple, ev_callH, ev_callHK, ev_callP, ev_callPK, ev_blt, ev_sub, ev_neg, ev_not, ev_and, ev_or, ev_isi, ev_int, ev_str, ev_bl, ev_non, ev_var, ev_glob, ev_cel, ev_listJ, ev_meth, ev_sortS, ev_slice, evs_cons, evs_nil, evO_none, evO_some, evC_none, evC_some, evI_ex, evI_range, evI_enum, stillW_tup, srcOf_tup, srcOf_lst, srcOf_new, put_nm, put_tp, putS_cons, putS_nil, wipe_cons, wipe_nil, List.getElem?_cons_succ, List.getElem?_cons_zero, List.set_cons_succ, List.set_cons_zero, bind_ok, noX_ok, ofO_some, fz_int, fz_bl, fz_str, fz_ref, fz_lst, fz_new, fz_tup, fz_scr, fz_non, truth_bl, Bool.not_true, Bool.not_false, bop_add, bop_sub, cop_eq_int, cop_ne_int, cop_lt_int, cop_le_int, cop_gt_int, cop_ge_int, subW, items_tup, items_lst, items_new, items_ref, itemsL_lst, itemsL_new, itemsL_ref, isCell_ref, sat_bind, sat_ok, rangeW_n (show n ≤ 99999 by omega)]) (I := fun j ys cs => ys = refs j ∧ cs = List.replicate j (.lst [])) (by rw [rangeI_len]; omega) ⟨rfl, rfl⟩ ?_ ?_
  · rintro j x ys cs hx ⟨rfl, rfl⟩
    simp only [ev_bin, ev_cmp, ev_list, ev_tuple, ev_callH, ev_callHK, ev_callP, ev_callPK, ev_blt, ev_sub, ev_neg, ev_not, ev_and, ev_or, ev_isi, ev_int, ev_str, ev_bl, ev_non, ev_var, ev_glob, ev_cel, ev_listJ, ev_meth, ev_sortS, ev_slice, evs_cons, evs_nil, evO_none, evO_some, evC_none, evC_some, evI_ex, evI_range, evI_enum, stillW_tup, srcOf_tup, srcOf_lst, srcOf_new, put_nm, put_tp, putS_cons, putS_nil, wipe_cons, wipe_nil, List.getElem?_cons_succ, List.getElem?_cons_zero, List.set_cons_succ, List.set_cons_zero, bind_ok, noX_ok, ofO_some, fz_int, fz_bl, fz_str, fz_ref, fz_lst, fz_new, fz_tup, fz_scr, fz_non, truth_bl, Bool.not_true, Bool.not_false, bop_add, bop_sub, cop_eq_int, cop_ne_int, cop_lt_int, cop_le_int, cop_gt_int, cop_ge_int, subW, items_tup, items_lst, items_new, items_ref, itemsL_lst, itemsL_new, itemsL_ref, isCell_ref, sat_bind, sat_ok, mkNew_ok (show ([] : List W).length ≤ 100000 by simp), if_true]
    exact ⟨by rw [refs_succ, List.length_replicate]; rfl, by rw [List.replicate_succ']⟩
  rintro ys cs ⟨rfl, rfl⟩ _
  rw [rangeI_len]
  simp only [ev_bin, ev_cmp, ev_list, ev_tuple, ev_callH, ev_callHK, ev_callP, ev_callPK, ev_blt, ev_sub, ev_neg, ev_not, ev_and, ev_or, ev_isi, ev_int, ev_str, ev_bl, ev_non, ev_var, ev_glob, ev_cel, ev_listJ, ev_meth, ev_sortS, ev_slice, evs_cons, evs_nil, evO_none, evO_some, evC_none, evC_some, evI_ex, evI_range, evI_enum, stillW_tup, srcOf_tup, srcOf_lst, srcOf_new, put_nm, put_tp, putS_cons, putS_nil, wipe_cons, wipe_nil, List.getElem?_cons_succ, List.getElem?_cons_zero, List.set_cons_succ, List.set_cons_zero, bind_ok, noX_ok, ofO_some, fz_int, fz_bl, fz_str, fz_ref, fz_lst, fz_new, fz_tup, fz_scr, fz_non, truth_bl, Bool.not_true, Bool.not_false, bop_add, bop_sub, cop_eq_int, cop_ne_int, cop_lt_int, cop_le_int, cop_gt_int, cop_ge_int, subW, items_tup, items_lst, items_new, items_ref, itemsL_lst, itemsL_new, itemsL_ref, isCell_ref, sat_bind, sat_ok]
  refine sat_cons ?_
  refine sat_for (xs := nums row) (by simp only [ev_bin, ev_cmp, ev_list, ev_tuple, ev_callH, ev_callHK, ev_callP, ev_callPK, ev_blt, ev_sub, ev_neg, ev_not, ev_and, ev_or, ev_isi, ev_int, ev_str, ev_bl, ev_non, ev_var, ev_glob, ev_cel, ev_listJ, ev_meth, ev_sortS, ev_slice, evs_cons, evs_nil, evO_none, evO_some, evC_none, evC_some, evI_ex, evI_range, evI_enum, stillW_tup, srcOf_tup, srcOf_lst, srcOf_new, put_nm, put_tp, putS_cons, putS_nil, wipe_cons, wipe_nil, List.getElem?_cons_succ, List.getElem?_cons_zero, List.set_cons_succ, List.set_cons_zero, bind_ok, noX_ok, ofO_some, fz_int, fz_bl, fz_str, fz_ref, fz_lst, fz_new, fz_tup, fz_scr, fz_non, truth_bl, Bool.not_true, Bool.not_false, bop_add, bop_sub, cop_eq_int, cop_ne_int, cop_lt_int, cop_le_int, cop_gt_int, cop_ge_int, subW, items_tup, items_lst, items_new, items_ref, itemsL_lst, itemsL_new, itemsL_ref, isCell_ref, sat_bind, sat_ok]) (I := fun R ρ cs => ∃ (A M : List Int) (o o1 o2 : Option W), R = nums M ∧ row = A ++ M ∧ cs.length = n ∧ (∀ p, p < n → cellL cs p = some (nums (lotAt A (p : Int)))) ∧ ρ = [some (.int (n : Int)), some (tI row), some (.lst (refs n)), o, o1, o2]) ?_ ?_ ?_
  · refine ⟨[], row, none, none, none, rfl, rfl, by simp, fun p hp => ?_, rfl⟩
    simp [cellL, List.getElem?_replicate, hp, lotAt]
  · rintro x R ρ cs ⟨A, M, o, o1, o2, hR, e, hc, hp, rfl⟩
    cases M with
    | nil => exact nomatch hR
    | cons x M =>
        rw [nums_cons] at hR
        cases hR
        obtain ⟨p, hpn, hx⟩ := div8 (h x (by rw [e]; simp))
        have cp := hp p hpn
        have lA : A.length ≤ 320 := by rw [e] at hl; rw [List.length_append] at hl; omega
        have lL := lotAt_len A (p : Int)
        simp only [ev_bin, ev_cmp, ev_list, ev_tuple, ev_callH, ev_callHK, ev_callP, ev_callPK, ev_blt, ev_sub, ev_neg, ev_not, ev_and, ev_or, ev_isi, ev_int, ev_str, ev_bl, ev_non, ev_var, ev_glob, ev_cel, ev_listJ, ev_meth, ev_sortS, ev_slice, evs_cons, evs_nil, evO_none, evO_some, evC_none, evC_some, evI_ex, evI_range, evI_enum, stillW_tup, srcOf_tup, srcOf_lst, srcOf_new, put_nm, put_tp, putS_cons, putS_nil, wipe_cons, wipe_nil, List.getElem?_cons_succ, List.getElem?_cons_zero, List.set_cons_succ, List.set_cons_zero, bind_ok, noX_ok, ofO_some, fz_int, fz_bl, fz_str, fz_ref, fz_lst, fz_new, fz_tup, fz_scr, fz_non, truth_bl, Bool.not_true, Bool.not_false, bop_add, bop_sub, cop_eq_int, cop_ne_int, cop_lt_int, cop_le_int, cop_gt_int, cop_ge_int, subW, items_tup, items_lst, items_new, items_ref, itemsL_lst, itemsL_new, itemsL_ref, isCell_ref, sat_bind, sat_ok]
        refine sat_cons (sat_set ?_)
        simp only [ev_bin, ev_cmp, ev_list, ev_tuple, ev_callH, ev_callHK, ev_callP, ev_callPK, ev_blt, ev_sub, ev_neg, ev_not, ev_and, ev_or, ev_isi, ev_int, ev_str, ev_bl, ev_non, ev_var, ev_glob, ev_cel, ev_listJ, ev_meth, ev_sortS, ev_slice, evs_cons, evs_nil, evO_none, evO_some, evC_none, evC_some, evI_ex, evI_range, evI_enum, stillW_tup, srcOf_tup, srcOf_lst, srcOf_new, put_nm, put_tp, putS_cons, putS_nil, wipe_cons, wipe_nil, List.getElem?_cons_succ, List.getElem?_cons_zero, List.set_cons_succ, List.set_cons_zero, bind_ok, noX_ok, ofO_some, fz_int, fz_bl, fz_str, fz_ref, fz_lst, fz_new, fz_tup, fz_scr, fz_non, truth_bl, Bool.not_true, Bool.not_false, bop_add, bop_sub, cop_eq_int, cop_ne_int, cop_lt_int, cop_le_int, cop_gt_int, cop_ge_int, subW, items_tup, items_lst, items_new, items_ref, itemsL_lst, itemsL_new, itemsL_ref, isCell_ref, sat_bind, sat_ok, bop_fdiv (a := x) (show (0 : Int) < 8 by decide) (by decide), hx, refs_at hpn]
        refine sat_cons (sat_ex ?_)
        have e1 := meth_append (w := .int (x - (p : Int) * 8)) cp (by rw [nums_len]; omega)
        simp only [ev_bin, ev_cmp, ev_list, ev_tuple, ev_callH, ev_callHK, ev_callP, ev_callPK, ev_blt, ev_sub, ev_neg, ev_not, ev_and, ev_or, ev_isi, ev_int, ev_str, ev_bl, ev_non, ev_var, ev_glob, ev_cel, ev_listJ, ev_meth, ev_sortS, ev_slice, evs_cons, evs_nil, evO_none, evO_some, evC_none, evC_some, evI_ex, evI_range, evI_enum, stillW_tup, srcOf_tup, srcOf_lst, srcOf_new, put_nm, put_tp, putS_cons, putS_nil, wipe_cons, wipe_nil, List.getElem?_cons_succ, List.getElem?_cons_zero, List.set_cons_succ, List.set_cons_zero, bind_ok, noX_ok, ofO_some, fz_int, fz_bl, fz_str, fz_ref, fz_lst, fz_new, fz_tup, fz_scr, fz_non, truth_bl, Bool.not_true, Bool.not_false, bop_add, bop_sub, cop_eq_int, cop_ne_int, cop_lt_int, cop_le_int, cop_gt_int, cop_ge_int, subW, items_tup, items_lst, items_new, items_ref, itemsL_lst, itemsL_new, itemsL_ref, isCell_ref, sat_bind, sat_ok, cp, Option.isSome_some, if_true, bop_fdiv (a := x) (show (0 : Int) < 8 by decide) (by decide), hx, bop_mul (a := (p : Int)) (b := 8) (.inr (big_ok (by decide) (by decide))), e1]
        refine sat_nil ⟨A ++ [x], M, _, _, _, rfl, by rw [e]; simp, by simpa using hc, fun q hq => ?_, rfl⟩
        rw [lotAt_app]
        by_cases c : q = p
        · subst c
          rw [cellL_same (by omega), ← nums_snoc]
          have : lotAt [x] (q : Int) = [x - (q : Int) * 8] := by
            simp only [lotAt, List.filter_cons, hx, beq_self_eq_true, if_true, List.filter_nil, List.map_cons, List.map_nil]
            congr 1
            omega
          rw [this]
        · rw [cellL_other (Ne.symm c), hp q hq, lotAt_nil (A := [x]), List.append_nil]
          intro y hy
          have : y = x := by simpa using hy
          subst this
          omega
  · rintro ρ cs ⟨A, M, o, o1, o2, hR, e, hc, hp, rfl⟩
    cases M with
    | cons x M => exact nomatch hR
    | nil =>
        rw [List.append_nil] at e
        subst e
        refine sat_cons (sat_ret ?_)
        have e1 := ev_map (O := XX.O k) (ρ := [some (.int (n : Int)), some (tI row), some (.lst (refs n)), o, o1, o2]) (cs := cs) (elt := .blt .tuple (.cons (.var 4) .nil)) (t := .nm 4) (it := .ex (.var 2)) (own := [4]) (xs := refs n) (fun w => match w with
          | .ref p => tI (lotAt row (p : Int))
          | w => w) (by simp only [ev_bin, ev_cmp, ev_list, ev_tuple, ev_callH, ev_callHK, ev_callP, ev_callPK, ev_blt, ev_sub, ev_neg, ev_not, ev_and, ev_or, ev_isi, ev_int, ev_str, ev_bl, ev_non, ev_var, ev_glob, ev_cel, ev_listJ, ev_meth, ev_sortS, ev_slice, evs_cons, evs_nil, evO_none, evO_some, evC_none, evC_some, evI_ex, evI_range, evI_enum, stillW_tup, srcOf_tup, srcOf_lst, srcOf_new, put_nm, put_tp, putS_cons, putS_nil, wipe_cons, wipe_nil, List.getElem?_cons_succ, List.getElem?_cons_zero, List.set_cons_succ, List.set_cons_zero, bind_ok, noX_ok, ofO_some, fz_int, fz_bl, fz_str, fz_ref, fz_lst, fz_new, fz_tup, fz_scr, fz_non, truth_bl, Bool.not_true, Bool.not_false, bop_add, bop_sub, cop_eq_int, cop_ne_int, cop_lt_int, cop_le_int, cop_gt_int, cop_ge_int, subW, items_tup, items_lst, items_new, items_ref, itemsL_lst, itemsL_new, itemsL_ref, isCell_ref, sat_bind, sat_ok]) (by simp [refs]; omega) (by
          intro x hx
          simp only [refs, List.mem_map, List.mem_range] at hx
          obtain ⟨p, hpn, rfl⟩ := hx
          have lL := lotAt_len row (p : Int)
          refine ⟨_, tI (lotAt row (p : Int)), rfl, ?_, rfl⟩
          simp only [ev_bin, ev_cmp, ev_list, ev_tuple, ev_callH, ev_callHK, ev_callP, ev_callPK, ev_blt, ev_sub, ev_neg, ev_not, ev_and, ev_or, ev_isi, ev_int, ev_str, ev_bl, ev_non, ev_var, ev_glob, ev_cel, ev_listJ, ev_meth, ev_sortS, ev_slice, evs_cons, evs_nil, evO_none, evO_some, evC_none, evC_some, evI_ex, evI_range, evI_enum, stillW_tup, srcOf_tup, srcOf_lst, srcOf_new, put_nm, put_tp, putS_cons, putS_nil, wipe_cons, wipe_nil, List.getElem?_cons_succ, List.getElem?_cons_zero, List.set_cons_succ, List.set_cons_zero, bind_ok, noX_ok, ofO_some, fz_int, fz_bl, fz_str, fz_ref, fz_lst, fz_new, fz_tup, fz_scr, fz_non, truth_bl, Bool.not_true, Bool.not_false, bop_add, bop_sub, cop_eq_int, cop_ne_int, cop_lt_int, cop_le_int, cop_gt_int, cop_ge_int, subW, items_tup, items_lst, items_new, items_ref, itemsL_lst, itemsL_new, itemsL_ref, isCell_ref, sat_bind, sat_ok, blt_tuple_ref (hp p hpn), mkTup_ok (show (nums (lotAt row (p : Int))).length ≤ 100000 by rw [nums_len]; omega)])
        have e2 : ((refs n).map fun w => match w with
          | .ref p => tI (lotAt row (p : Int))
          | w => w) = (plc n row).map fun l => tI l := by simp [refs, plc, Function.comp_def]
        rw [e2] at e1
        simp only [ev_bin, ev_cmp, ev_list, ev_tuple, ev_callH, ev_callHK, ev_callP, ev_callPK, ev_blt, ev_sub, ev_neg, ev_not, ev_and, ev_or, ev_isi, ev_int, ev_str, ev_bl, ev_non, ev_var, ev_glob, ev_cel, ev_listJ, ev_meth, ev_sortS, ev_slice, evs_cons, evs_nil, evO_none, evO_some, evC_none, evC_some, evI_ex, evI_range, evI_enum, stillW_tup, srcOf_tup, srcOf_lst, srcOf_new, put_nm, put_tp, putS_cons, putS_nil, wipe_cons, wipe_nil, List.getElem?_cons_succ, List.getElem?_cons_zero, List.set_cons_succ, List.set_cons_zero, bind_ok, noX_ok, ofO_some, fz_int, fz_bl, fz_str, fz_ref, fz_lst, fz_new, fz_tup, fz_scr, fz_non, truth_bl, Bool.not_true, Bool.not_false, bop_add, bop_sub, cop_eq_int, cop_ne_int, cop_lt_int, cop_le_int, cop_gt_int, cop_ge_int, subW, items_tup, items_lst, items_new, items_ref, itemsL_lst, itemsL_new, itemsL_ref, isCell_ref, sat_bind, sat_ok, e1, blt_tuple_lst, mkTup_ok (show ((plc n row).map fun l => tI l).length ≤ 100000 by rw [List.length_map, plc_len]; omega)]
        exact handed_flat (flat_PL _)
/-! ### placing_of -/
theorem bad_number (k : Nat) {v w : W} (hv : At v) (hg : gd 6 v = true) (hf : flat deep v = true) (h : ift v 0 40 = false) {cs : List Ob} : XX.C (k + 3) 4 [v, w] cs = .exn ⟨0, [("value", v)]⟩ cs := by
  refine Ctx.exn_of at_placing_of (by rfl) ?_
  show runs (XX.O (k + 2)) b_placing_of [some v, some w, none, none, none] cs = _
  refine runs_exn (run_ex_exn ?_)
  have e := callP_exn (O := XX.O (k + 2)) (f := 1) (ws := [v, .int 0, .int 40]) (vs := [v, .int 0, .int 40]) (cs := cs) (derefL_cons' (deref_gd hg) (derefL_cons' rfl (derefL_cons' rfl derefL_nil'))) (check_bad k hv hg h) (by simp only [flatX, List.all_cons, List.all_nil, hf, Bool.and_self])
  simp only [ev_bin, ev_cmp, ev_list, ev_tuple, ev_callH, ev_callHK, ev_callP, ev_callPK, ev_blt, ev_sub, ev_neg, ev_not, ev_and, ev_or, ev_isi, ev_int, ev_str, ev_bl, ev_non, ev_var, ev_glob, ev_cel, ev_listJ, ev_meth, ev_sortS, ev_slice, evs_cons, evs_nil, evO_none, evO_some, evC_none, evC_some, evI_ex, evI_range, evI_enum, stillW_tup, srcOf_tup, srcOf_lst, srcOf_new, put_nm, put_tp, putS_cons, putS_nil, wipe_cons, wipe_nil, List.getElem?_cons_succ, List.getElem?_cons_zero, List.set_cons_succ, List.set_cons_zero, bind_ok, noX_ok, ofO_some, fz_int, fz_bl, fz_str, fz_ref, fz_lst, fz_new, fz_tup, fz_scr, fz_non, truth_bl, Bool.not_true, Bool.not_false, bop_add, bop_sub, cop_eq_int, cop_ne_int, cop_lt_int, cop_le_int, cop_gt_int, cop_ge_int, subW, items_tup, items_lst, items_new, items_ref, itemsL_lst, itemsL_new, itemsL_ref, isCell_ref, sat_bind, sat_ok, glob2, gd_fz hg, e]
theorem ift_n {n : Nat} (h : n ≤ 40) : ift (.int (n : Int)) 0 40 = true := by
  simp only [ift, Bool.and_eq_true, decide_eq_true_eq]
  omega
theorem call_check (k : Nat) {n : Nat} (h : n ≤ 40) {cs : List Ob} : callP (XX.O (k + 2)) 1 [.int (n : Int), .int 0, .int 40] cs = .ok .non cs :=
  (p_check_ok k (v := .int (n : Int)) trivial rfl (ift_n h)).call (derefL_cons' rfl (derefL_cons' rfl (derefL_cons' rfl derefL_nil')))
theorem bad_row (k : Nat) {n : Nat} {w : W} (hn : n ≤ 40) (hw : Row w) (h : isR w (8 * (n : Int) - 1) = false) {cs : List Ob} : XX.C (k + 3) 4 [.int (n : Int), w] cs = .exn ⟨1, [("value", w)]⟩ cs := by
  refine Ctx.exn_of at_placing_of (by rfl) ?_
  show runs (XX.O (k + 2)) b_placing_of [some (.int (n : Int)), some w, none, none, none] cs = _
  have e1 : run (XX.O (k + 2)) (.ex (.callP 1 (.cons (.var 0) (.cons (.int 0) (.cons (.glob "MOST_PIECES") .nil))))) [some (.int (n : Int)), some w, none, none, none] cs = .ok (.nx [some (.int (n : Int)), some w, none, none, none]) cs := by
    rw [run]
    simp only [ev_bin, ev_cmp, ev_list, ev_tuple, ev_callH, ev_callHK, ev_callP, ev_callPK, ev_blt, ev_sub, ev_neg, ev_not, ev_and, ev_or, ev_isi, ev_int, ev_str, ev_bl, ev_non, ev_var, ev_glob, ev_cel, ev_listJ, ev_meth, ev_sortS, ev_slice, evs_cons, evs_nil, evO_none, evO_some, evC_none, evC_some, evI_ex, evI_range, evI_enum, stillW_tup, srcOf_tup, srcOf_lst, srcOf_new, put_nm, put_tp, putS_cons, putS_nil, wipe_cons, wipe_nil, List.getElem?_cons_succ, List.getElem?_cons_zero, List.set_cons_succ, List.set_cons_zero, bind_ok, noX_ok, ofO_some, fz_int, fz_bl, fz_str, fz_ref, fz_lst, fz_new, fz_tup, fz_scr, fz_non, truth_bl, Bool.not_true, Bool.not_false, bop_add, bop_sub, cop_eq_int, cop_ne_int, cop_lt_int, cop_le_int, cop_gt_int, cop_ge_int, subW, items_tup, items_lst, items_new, items_ref, itemsL_lst, itemsL_new, itemsL_ref, isCell_ref, sat_bind, sat_ok, glob2, call_check k hn]
  rw [b_placing_of, runs_nx e1]
  have e2 := (p_rise k hw (8 * (n : Int) - 1)).call (cs := cs) (ws := [w, .int (8 * (n : Int) - 1)]) (derefL_cons' (deref_gd hw.1) (derefL_cons' rfl derefL_nil'))
  rw [h] at e2
  refine runs_exn ((run_ift (cs1 := cs) ?_).trans (runs_exn ((run_raise (cs1 := cs) (w := w) ?_).trans (by rw [gd_fz hw.1]))))
  · simp only [ev_bin, ev_cmp, ev_list, ev_tuple, ev_callH, ev_callHK, ev_callP, ev_callPK, ev_blt, ev_sub, ev_neg, ev_not, ev_and, ev_or, ev_isi, ev_int, ev_str, ev_bl, ev_non, ev_var, ev_glob, ev_cel, ev_listJ, ev_meth, ev_sortS, ev_slice, evs_cons, evs_nil, evO_none, evO_some, evC_none, evC_some, evI_ex, evI_range, evI_enum, stillW_tup, srcOf_tup, srcOf_lst, srcOf_new, put_nm, put_tp, putS_cons, putS_nil, wipe_cons, wipe_nil, List.getElem?_cons_succ, List.getElem?_cons_zero, List.set_cons_succ, List.set_cons_zero, bind_ok, noX_ok, ofO_some, fz_int, fz_bl, fz_str, fz_ref, fz_lst, fz_new, fz_tup, fz_scr, fz_non, truth_bl, Bool.not_true, Bool.not_false, bop_add, bop_sub, cop_eq_int, cop_ne_int, cop_lt_int, cop_le_int, cop_gt_int, cop_ge_int, subW, items_tup, items_lst, items_new, items_ref, itemsL_lst, itemsL_new, itemsL_ref, isCell_ref, sat_bind, sat_ok, glob1, bop_mul (a := 8) (b := (n : Int)) (.inl (big_ok (by decide) (by decide))), gd_fz hw.1, e2]
  · simp only [ev_bin, ev_cmp, ev_list, ev_tuple, ev_callH, ev_callHK, ev_callP, ev_callPK, ev_blt, ev_sub, ev_neg, ev_not, ev_and, ev_or, ev_isi, ev_int, ev_str, ev_bl, ev_non, ev_var, ev_glob, ev_cel, ev_listJ, ev_meth, ev_sortS, ev_slice, evs_cons, evs_nil, evO_none, evO_some, evC_none, evC_some, evI_ex, evI_range, evI_enum, stillW_tup, srcOf_tup, srcOf_lst, srcOf_new, put_nm, put_tp, putS_cons, putS_nil, wipe_cons, wipe_nil, List.getElem?_cons_succ, List.getElem?_cons_zero, List.set_cons_succ, List.set_cons_zero, bind_ok, noX_ok, ofO_some, fz_int, fz_bl, fz_str, fz_ref, fz_lst, fz_new, fz_tup, fz_scr, fz_non, truth_bl, Bool.not_true, Bool.not_false, bop_add, bop_sub, cop_eq_int, cop_ne_int, cop_lt_int, cop_le_int, cop_gt_int, cop_ge_int, subW, items_tup, items_lst, items_new, items_ref, itemsL_lst, itemsL_new, itemsL_ref, isCell_ref, sat_bind, sat_ok]
theorem c_placing (k : Nat) {n : Nat} {row : List Int} (hn : n ≤ 40) (hl : row.length ≤ 320) (hr : row.Pairwise (· < ·)) (h : ∀ x ∈ row, 0 ≤ x ∧ x < 8 * (n : Int)) {cs : List Ob} :
    Sat (XX.C (k + 3) 4 [.int (n : Int), tI row] cs) fun w cs1 => w = PL (plc n row) ∧ ∃ x, cs1 = cs ++ x := by
  refine Ctx.sat_of at_placing_of (by rfl) ?_
  show Sat (runs (XX.O (k + 2)) b_placing_of [some (.int (n : Int)), some (tI row), none, none, none] cs) _
  have e1 : run (XX.O (k + 2)) (.ex (.callP 1 (.cons (.var 0) (.cons (.int 0) (.cons (.glob "MOST_PIECES") .nil))))) [some (.int (n : Int)), some (tI row), none, none, none] cs = .ok (.nx [some (.int (n : Int)), some (tI row), none, none, none]) cs := by
    rw [run]
    simp only [ev_bin, ev_cmp, ev_list, ev_tuple, ev_callH, ev_callHK, ev_callP, ev_callPK, ev_blt, ev_sub, ev_neg, ev_not, ev_and, ev_or, ev_isi, ev_int, ev_str, ev_bl, ev_non, ev_var, ev_glob, ev_cel, ev_listJ, ev_meth, ev_sortS, ev_slice, evs_cons, evs_nil, evO_none, evO_some, evC_none, evC_some, evI_ex, evI_range, evI_enum, stillW_tup, srcOf_tup, srcOf_lst, srcOf_new, put_nm, put_tp, putS_cons, putS_nil, wipe_cons, wipe_nil, List.getElem?_cons_succ, List.getElem?_cons_zero, List.set_cons_succ, List.set_cons_zero, bind_ok, noX_ok, ofO_some, fz_int, fz_bl, fz_str, fz_ref, fz_lst, fz_new, fz_tup, fz_scr, fz_non, truth_bl, Bool.not_true, Bool.not_false, bop_add, bop_sub, cop_eq_int, cop_ne_int, cop_lt_int, cop_le_int, cop_gt_int, cop_ge_int, subW, items_tup, items_lst, items_new, items_ref, itemsL_lst, itemsL_new, itemsL_ref, isCell_ref, sat_bind, sat_ok, glob2, call_check k hn]
  rw [b_placing_of, runs_nx e1]
  have hw : Row (tI row) := ⟨gd_tI (by omega), fun xs e x hx => by
    cases e
    simp only [nums, List.mem_map] at hx
    obtain ⟨i, _, rfl⟩ := hx
    trivial⟩
  have e2 := (p_rise k hw (8 * (n : Int) - 1)).call (cs := cs) (ws := [tI row, .int (8 * (n : Int) - 1)]) (derefL_cons' (deref_gd hw.1) (derefL_cons' rfl derefL_nil'))
  rw [show isR (tI row) (8 * (n : Int) - 1) = true from ris_nums hr fun x hx => by have := h x hx; omega] at e2
  refine sat_cons (sat_if ?_)
  simp only [ev_bin, ev_cmp, ev_list, ev_tuple, ev_callH, ev_callHK, ev_callP, ev_callPK, ev_blt, ev_sub, ev_neg, ev_not, ev_and, ev_or, ev_isi, ev_int, ev_str, ev_bl, ev_non, ev_var, ev_glob, ev_cel, ev_listJ, ev_meth, ev_sortS, ev_slice, evs_cons, evs_nil, evO_none, evO_some, evC_none, evC_some, evI_ex, evI_range, evI_enum, stillW_tup, srcOf_tup, srcOf_lst, srcOf_new, put_nm, put_tp, putS_cons, putS_nil, wipe_cons, wipe_nil, List.getElem?_cons_succ, List.getElem?_cons_zero, List.set_cons_succ, List.set_cons_zero, bind_ok, noX_ok, ofO_some, fz_int, fz_bl, fz_str, fz_ref, fz_lst, fz_new, fz_tup, fz_scr, fz_non, truth_bl, Bool.not_true, Bool.not_false, bop_add, bop_sub, cop_eq_int, cop_ne_int, cop_lt_int, cop_le_int, cop_gt_int, cop_ge_int, subW, items_tup, items_lst, items_new, items_ref, itemsL_lst, itemsL_new, itemsL_ref, isCell_ref, sat_bind, sat_ok, glob1, bop_mul (a := 8) (b := (n : Int)) (.inl (big_ok (by decide) (by decide))), e2]
  refine sat_nil (sat_cons (sat_set ?_))
  simp only [ev_bin, ev_cmp, ev_list, ev_tuple, ev_callH, ev_callHK, ev_callP, ev_callPK, ev_blt, ev_sub, ev_neg, ev_not, ev_and, ev_or, ev_isi, ev_int, ev_str, ev_bl, ev_non, ev_var, ev_glob, ev_cel, ev_listJ, ev_meth, ev_sortS, ev_slice, evs_cons, evs_nil, evO_none, evO_some, evC_none, evC_some, evI_ex, evI_range, evI_enum, stillW_tup, srcOf_tup, srcOf_lst, srcOf_new, put_nm, put_tp, putS_cons, putS_nil, wipe_cons, wipe_nil, List.getElem?_cons_succ, List.getElem?_cons_zero, List.set_cons_succ, List.set_cons_zero, bind_ok, noX_ok, ofO_some, fz_int, fz_bl, fz_str, fz_ref, fz_lst, fz_new, fz_tup, fz_scr, fz_non, truth_bl, Bool.not_true, Bool.not_false, bop_add, bop_sub, cop_eq_int, cop_ne_int, cop_lt_int, cop_le_int, cop_gt_int, cop_ge_int, subW, items_tup, items_lst, items_new, items_ref, itemsL_lst, itemsL_new, itemsL_ref, isCell_ref, sat_bind, sat_ok, mkNew_ok (show ([] : List W).length ≤ 100000 by simp)]
  refine sat_cons ?_
  refine sat_for_ix (xs := rangeI 0 n) (by simp only [ev_bin, ev_cmp, ev_list, ev_tuple, ev_callH, ev_callHK, ev_callP, ev_callPK, ev_blt, ev_sub, ev_neg, ev_not, ev_and, ev_or, ev_isi, ev_int, ev_str, ev_bl, ev_non, ev_var, ev_glob, ev_cel, ev_listJ, ev_meth, ev_sortS, ev_slice, evs_cons, evs_nil, evO_none, evO_some, evC_none, evC_some, evI_ex, evI_range, evI_enum, stillW_tup, srcOf_tup, srcOf_lst, srcOf_new, put_nm, put_tp, putS_cons, putS_nil, wipe_cons, wipe_nil, List.getElem?_cons_succ, List.getElem?_cons_zero, List.set_cons_succ, List.set_cons_zero, bind_ok, noX_ok, ofO_some, fz_int, fz_bl, fz_str, fz_ref, fz_lst, fz_new, fz_tup, fz_scr, fz_non, truth_bl, Bool.not_true, Bool.not_false, bop_add, bop_sub, cop_eq_int, cop_ne_int, cop_lt_int, cop_le_int, cop_gt_int, cop_ge_int, subW, items_tup, items_lst, items_new, items_ref, itemsL_lst, itemsL_new, itemsL_ref, isCell_ref, sat_bind, sat_ok, rangeW_n (show n ≤ 99999 by omega)]) (I := fun j ρ cs1 => j ≤ n ∧ ∃ (o o1 : Option W), cs1 = cs ++ [.lst ((plc j row).map fun l => tI l)] ∧ ρ = [some (.int (n : Int)), some (tI row), some (.ref cs.length), o, o1]) ?_ ?_ ?_
  · exact ⟨Nat.zero_le _, none, none, rfl, rfl⟩
  · rintro j x ρ cs1 hx ⟨hj, o, o1, rfl, rfl⟩
    obtain ⟨hj', rfl⟩ := rangeI_get hx
    rw [Int.zero_add]
    simp only [ev_bin, ev_cmp, ev_list, ev_tuple, ev_callH, ev_callHK, ev_callP, ev_callPK, ev_blt, ev_sub, ev_neg, ev_not, ev_and, ev_or, ev_isi, ev_int, ev_str, ev_bl, ev_non, ev_var, ev_glob, ev_cel, ev_listJ, ev_meth, ev_sortS, ev_slice, evs_cons, evs_nil, evO_none, evO_some, evC_none, evC_some, evI_ex, evI_range, evI_enum, stillW_tup, srcOf_tup, srcOf_lst, srcOf_new, put_nm, put_tp, putS_cons, putS_nil, wipe_cons, wipe_nil, List.getElem?_cons_succ, List.getElem?_cons_zero, List.set_cons_succ, List.set_cons_zero, bind_ok, noX_ok, ofO_some, fz_int, fz_bl, fz_str, fz_ref, fz_lst, fz_new, fz_tup, fz_scr, fz_non, truth_bl, Bool.not_true, Bool.not_false, bop_add, bop_sub, cop_eq_int, cop_ne_int, cop_lt_int, cop_le_int, cop_gt_int, cop_ge_int, subW, items_tup, items_lst, items_new, items_ref, itemsL_lst, itemsL_new, itemsL_ref, isCell_ref, sat_bind, sat_ok]
    refine sat_cons (sat_ex ?_)
    have ll := lotAt_len row (j : Int)
    have e3 := ev_compN (O := XX.O (k + 2)) (ρ := [some (.int (n : Int)), some (tI row), some (.ref cs.length), some (.int (j : Int)), o1]) (cs := cs ++ [.lst ((plc j row).map fun l => tI l)]) (elt := .bin .mod (.var 4) (.glob "STORES")) (t := .nm 4) (it := .ex (.var 1)) (c := .some (.cmp .eq (.bin .fdiv (.var 4) (.glob "STORES")) (.var 3))) (own := [4]) (L := row) (fun x => x / 8 == (j : Int)) (fun x => .int (x % 8)) (by simp only [ev_bin, ev_cmp, ev_list, ev_tuple, ev_callH, ev_callHK, ev_callP, ev_callPK, ev_blt, ev_sub, ev_neg, ev_not, ev_and, ev_or, ev_isi, ev_int, ev_str, ev_bl, ev_non, ev_var, ev_glob, ev_cel, ev_listJ, ev_meth, ev_sortS, ev_slice, evs_cons, evs_nil, evO_none, evO_some, evC_none, evC_some, evI_ex, evI_range, evI_enum, stillW_tup, srcOf_tup, srcOf_lst, srcOf_new, put_nm, put_tp, putS_cons, putS_nil, wipe_cons, wipe_nil, List.getElem?_cons_succ, List.getElem?_cons_zero, List.set_cons_succ, List.set_cons_zero, bind_ok, noX_ok, ofO_some, fz_int, fz_bl, fz_str, fz_ref, fz_lst, fz_new, fz_tup, fz_scr, fz_non, truth_bl, Bool.not_true, Bool.not_false, bop_add, bop_sub, cop_eq_int, cop_ne_int, cop_lt_int, cop_le_int, cop_gt_int, cop_ge_int, subW, items_tup, items_lst, items_new, items_ref, itemsL_lst, itemsL_new, itemsL_ref, isCell_ref, sat_bind, sat_ok]) (by omega) (by
      intro x hx
      refine ⟨_, rfl, ?_⟩
      simp only [ev_bin, ev_cmp, ev_list, ev_tuple, ev_callH, ev_callHK, ev_callP, ev_callPK, ev_blt, ev_sub, ev_neg, ev_not, ev_and, ev_or, ev_isi, ev_int, ev_str, ev_bl, ev_non, ev_var, ev_glob, ev_cel, ev_listJ, ev_meth, ev_sortS, ev_slice, evs_cons, evs_nil, evO_none, evO_some, evC_none, evC_some, evI_ex, evI_range, evI_enum, stillW_tup, srcOf_tup, srcOf_lst, srcOf_new, put_nm, put_tp, putS_cons, putS_nil, wipe_cons, wipe_nil, List.getElem?_cons_succ, List.getElem?_cons_zero, List.set_cons_succ, List.set_cons_zero, bind_ok, noX_ok, ofO_some, fz_int, fz_bl, fz_str, fz_ref, fz_lst, fz_new, fz_tup, fz_scr, fz_non, truth_bl, Bool.not_true, Bool.not_false, bop_add, bop_sub, cop_eq_int, cop_ne_int, cop_lt_int, cop_le_int, cop_gt_int, cop_ge_int, subW, items_tup, items_lst, items_new, items_ref, itemsL_lst, itemsL_new, itemsL_ref, isCell_ref, sat_bind, sat_ok, glob1, bop_fdiv (a := x) (show (0 : Int) < 8 by decide) (by decide)]
      cases c : x / 8 == (j : Int) with
      | true => simp only [ev_bin, ev_cmp, ev_list, ev_tuple, ev_callH, ev_callHK, ev_callP, ev_callPK, ev_blt, ev_sub, ev_neg, ev_not, ev_and, ev_or, ev_isi, ev_int, ev_str, ev_bl, ev_non, ev_var, ev_glob, ev_cel, ev_listJ, ev_meth, ev_sortS, ev_slice, evs_cons, evs_nil, evO_none, evO_some, evC_none, evC_some, evI_ex, evI_range, evI_enum, stillW_tup, srcOf_tup, srcOf_lst, srcOf_new, put_nm, put_tp, putS_cons, putS_nil, wipe_cons, wipe_nil, List.getElem?_cons_succ, List.getElem?_cons_zero, List.set_cons_succ, List.set_cons_zero, bind_ok, noX_ok, ofO_some, fz_int, fz_bl, fz_str, fz_ref, fz_lst, fz_new, fz_tup, fz_scr, fz_non, truth_bl, Bool.not_true, Bool.not_false, bop_add, bop_sub, cop_eq_int, cop_ne_int, cop_lt_int, cop_le_int, cop_gt_int, cop_ge_int, subW, items_tup, items_lst, items_new, items_ref, itemsL_lst, itemsL_new, itemsL_ref, isCell_ref, sat_bind, sat_ok, if_true, glob1, bop_mod (a := x) (show (0 : Int) < 8 by decide)]
      | false => rfl)
    have e4 : ((row.filter fun x => x / 8 == (j : Int)).map fun x => W.int (x % 8)) = nums (lotAt row (j : Int)) := by simp [nums, lotAt, Function.comp_def]
    rw [e4] at e3
    have cc : cellL (cs ++ [.lst ((plc j row).map fun l => tI l)]) cs.length = some ((plc j row).map fun l => tI l) := cellL_end
    have e5 := meth_append (w := tI (lotAt row (j : Int))) cc (by rw [List.length_map, plc_len]; omega)
    simp only [ev_bin, ev_cmp, ev_list, ev_tuple, ev_callH, ev_callHK, ev_callP, ev_callPK, ev_blt, ev_sub, ev_neg, ev_not, ev_and, ev_or, ev_isi, ev_int, ev_str, ev_bl, ev_non, ev_var, ev_glob, ev_cel, ev_listJ, ev_meth, ev_sortS, ev_slice, evs_cons, evs_nil, evO_none, evO_some, evC_none, evC_some, evI_ex, evI_range, evI_enum, stillW_tup, srcOf_tup, srcOf_lst, srcOf_new, put_nm, put_tp, putS_cons, putS_nil, wipe_cons, wipe_nil, List.getElem?_cons_succ, List.getElem?_cons_zero, List.set_cons_succ, List.set_cons_zero, bind_ok, noX_ok, ofO_some, fz_int, fz_bl, fz_str, fz_ref, fz_lst, fz_new, fz_tup, fz_scr, fz_non, truth_bl, Bool.not_true, Bool.not_false, bop_add, bop_sub, cop_eq_int, cop_ne_int, cop_lt_int, cop_le_int, cop_gt_int, cop_ge_int, subW, items_tup, items_lst, items_new, items_ref, itemsL_lst, itemsL_new, itemsL_ref, isCell_ref, sat_bind, sat_ok, cc, Option.isSome_some, if_true, e3, blt_tuple_lst, mkTup_ok (show (nums (lotAt row (j : Int))).length ≤ 100000 by rw [nums_len]; omega), e5]
    refine sat_nil ⟨hj', _, _, ?_, rfl⟩
    rw [List.set_append_right _ _ (Nat.le_refl _), Nat.sub_self, List.set_cons_zero]
    congr 4
    simp [plc, List.range_succ]
  · rintro ρ cs1 ⟨hj, o, o1, rfl, rfl⟩
    rw [rangeI_len]
    refine sat_cons (sat_ret ?_)
    simp only [ev_bin, ev_cmp, ev_list, ev_tuple, ev_callH, ev_callHK, ev_callP, ev_callPK, ev_blt, ev_sub, ev_neg, ev_not, ev_and, ev_or, ev_isi, ev_int, ev_str, ev_bl, ev_non, ev_var, ev_glob, ev_cel, ev_listJ, ev_meth, ev_sortS, ev_slice, evs_cons, evs_nil, evO_none, evO_some, evC_none, evC_some, evI_ex, evI_range, evI_enum, stillW_tup, srcOf_tup, srcOf_lst, srcOf_new, put_nm, put_tp, putS_cons, putS_nil, wipe_cons, wipe_nil, List.getElem?_cons_succ, List.getElem?_cons_zero, List.set_cons_succ, List.set_cons_zero, bind_ok, noX_ok, ofO_some, fz_int, fz_bl, fz_str, fz_ref, fz_lst, fz_new, fz_tup, fz_scr, fz_non, truth_bl, Bool.not_true, Bool.not_false, bop_add, bop_sub, cop_eq_int, cop_ne_int, cop_lt_int, cop_le_int, cop_gt_int, cop_ge_int, subW, items_tup, items_lst, items_new, items_ref, itemsL_lst, itemsL_new, itemsL_ref, isCell_ref, sat_bind, sat_ok, blt_tuple_ref (show cellL (cs ++ [.lst ((plc n row).map fun l => tI l)]) cs.length = some ((plc n row).map fun l => tI l) from cellL_end), mkTup_ok (show ((plc n row).map fun l => tI l).length ≤ 100000 by rw [List.length_map, plc_len]; omega)]
    exact ⟨rfl, _, rfl⟩
/-! ### what is asked -/
theorem c_ask (k : Nat) {n : Nat} {row : List Int} {nm : Int} (hn : n ≤ 40) (hl : row.length ≤ 320) (hr : row.Pairwise (· < ·)) (h : ∀ x ∈ row, 0 ≤ x ∧ x < 8 * (n : Int)) {cs : List Ob} :
    Sat (XX.C (k + 4) 17 [.int (n : Int), tI row, .int nm] cs) fun w cs1 => w = .tup [.str "told", PL (plc n row)] ∧ ∃ x, cs1 = cs ++ x := by
  refine Ctx.sat_of at_law_ask (by rfl) ?_
  show Sat (runs (XX.O (k + 3)) b_law_ask [some (.int (n : Int)), some (tI row), some (.int nm), none] cs) _
  refine sat_cons (sat_try_ok ?_)
  have z : ∀ P, fz (PL P) = PL P := fun _ => rfl
  refine sat_cons (sat_if ?_)
  simp only [ev_bin, ev_cmp, ev_list, ev_tuple, ev_callH, ev_callHK, ev_callP, ev_callPK, ev_blt, ev_sub, ev_neg, ev_not, ev_and, ev_or, ev_isi, ev_int, ev_str, ev_bl, ev_non, ev_var, ev_glob, ev_cel, ev_listJ, ev_meth, ev_sortS, ev_slice, evs_cons, evs_nil, evO_none, evO_some, evC_none, evC_some, evI_ex, evI_range, evI_enum, stillW_tup, srcOf_tup, srcOf_lst, srcOf_new, put_nm, put_tp, putS_cons, putS_nil, wipe_cons, wipe_nil, List.getElem?_cons_succ, List.getElem?_cons_zero, List.set_cons_succ, List.set_cons_zero, bind_ok, noX_ok, ofO_some, fz_int, fz_bl, fz_str, fz_ref, fz_lst, fz_new, fz_tup, fz_scr, fz_non, truth_bl, Bool.not_true, Bool.not_false, bop_add, bop_sub, cop_eq_int, cop_ne_int, cop_lt_int, cop_le_int, cop_gt_int, cop_ge_int, subW, items_tup, items_lst, items_new, items_ref, itemsL_lst, itemsL_new, itemsL_ref, isCell_ref, sat_bind, sat_ok]
  cases c : nm == 1 with
  | true =>
      refine sat_cons (sat_ret ?_)
      simp only [ev_bin, ev_cmp, ev_list, ev_tuple, ev_callH, ev_callHK, ev_callP, ev_callPK, ev_blt, ev_sub, ev_neg, ev_not, ev_and, ev_or, ev_isi, ev_int, ev_str, ev_bl, ev_non, ev_var, ev_glob, ev_cel, ev_listJ, ev_meth, ev_sortS, ev_slice, evs_cons, evs_nil, evO_none, evO_some, evC_none, evC_some, evI_ex, evI_range, evI_enum, stillW_tup, srcOf_tup, srcOf_lst, srcOf_new, put_nm, put_tp, putS_cons, putS_nil, wipe_cons, wipe_nil, List.getElem?_cons_succ, List.getElem?_cons_zero, List.set_cons_succ, List.set_cons_zero, bind_ok, noX_ok, ofO_some, fz_int, fz_bl, fz_str, fz_ref, fz_lst, fz_new, fz_tup, fz_scr, fz_non, truth_bl, Bool.not_true, Bool.not_false, bop_add, bop_sub, cop_eq_int, cop_ne_int, cop_lt_int, cop_le_int, cop_gt_int, cop_ge_int, subW, items_tup, items_lst, items_new, items_ref, itemsL_lst, itemsL_new, itemsL_ref, isCell_ref, sat_bind, sat_ok, show permute [tI row, W.int (n : Int)] [1, 0] = [.int (n : Int), tI row] from rfl]
      refine (c_placing k hn hl hr h).mono fun w cs1 q => ?_
      obtain ⟨rfl, q⟩ := q
      simp only [ev_bin, ev_cmp, ev_list, ev_tuple, ev_callH, ev_callHK, ev_callP, ev_callPK, ev_blt, ev_sub, ev_neg, ev_not, ev_and, ev_or, ev_isi, ev_int, ev_str, ev_bl, ev_non, ev_var, ev_glob, ev_cel, ev_listJ, ev_meth, ev_sortS, ev_slice, evs_cons, evs_nil, evO_none, evO_some, evC_none, evC_some, evI_ex, evI_range, evI_enum, stillW_tup, srcOf_tup, srcOf_lst, srcOf_new, put_nm, put_tp, putS_cons, putS_nil, wipe_cons, wipe_nil, List.getElem?_cons_succ, List.getElem?_cons_zero, List.set_cons_succ, List.set_cons_zero, bind_ok, noX_ok, ofO_some, fz_int, fz_bl, fz_str, fz_ref, fz_lst, fz_new, fz_tup, fz_scr, fz_non, truth_bl, Bool.not_true, Bool.not_false, bop_add, bop_sub, cop_eq_int, cop_ne_int, cop_lt_int, cop_le_int, cop_gt_int, cop_ge_int, subW, items_tup, items_lst, items_new, items_ref, itemsL_lst, itemsL_new, itemsL_ref, isCell_ref, sat_bind, sat_ok, z, mkTup_ok (show [W.str "told", PL (plc n row)].length ≤ 100000 by simp)]
      exact ⟨trivial, q⟩
  | false =>
      refine sat_nil (sat_cons (sat_ret ?_))
      simp only [ev_bin, ev_cmp, ev_list, ev_tuple, ev_callH, ev_callHK, ev_callP, ev_callPK, ev_blt, ev_sub, ev_neg, ev_not, ev_and, ev_or, ev_isi, ev_int, ev_str, ev_bl, ev_non, ev_var, ev_glob, ev_cel, ev_listJ, ev_meth, ev_sortS, ev_slice, evs_cons, evs_nil, evO_none, evO_some, evC_none, evC_some, evI_ex, evI_range, evI_enum, stillW_tup, srcOf_tup, srcOf_lst, srcOf_new, put_nm, put_tp, putS_cons, putS_nil, wipe_cons, wipe_nil, List.getElem?_cons_succ, List.getElem?_cons_zero, List.set_cons_succ, List.set_cons_zero, bind_ok, noX_ok, ofO_some, fz_int, fz_bl, fz_str, fz_ref, fz_lst, fz_new, fz_tup, fz_scr, fz_non, truth_bl, Bool.not_true, Bool.not_false, bop_add, bop_sub, cop_eq_int, cop_ne_int, cop_lt_int, cop_le_int, cop_gt_int, cop_ge_int, subW, items_tup, items_lst, items_new, items_ref, itemsL_lst, itemsL_new, itemsL_ref, isCell_ref, sat_bind, sat_ok]
      refine (c_placing k hn hl hr h).mono fun w cs1 q => ?_
      obtain ⟨rfl, q⟩ := q
      simp only [ev_bin, ev_cmp, ev_list, ev_tuple, ev_callH, ev_callHK, ev_callP, ev_callPK, ev_blt, ev_sub, ev_neg, ev_not, ev_and, ev_or, ev_isi, ev_int, ev_str, ev_bl, ev_non, ev_var, ev_glob, ev_cel, ev_listJ, ev_meth, ev_sortS, ev_slice, evs_cons, evs_nil, evO_none, evO_some, evC_none, evC_some, evI_ex, evI_range, evI_enum, stillW_tup, srcOf_tup, srcOf_lst, srcOf_new, put_nm, put_tp, putS_cons, putS_nil, wipe_cons, wipe_nil, List.getElem?_cons_succ, List.getElem?_cons_zero, List.set_cons_succ, List.set_cons_zero, bind_ok, noX_ok, ofO_some, fz_int, fz_bl, fz_str, fz_ref, fz_lst, fz_new, fz_tup, fz_scr, fz_non, truth_bl, Bool.not_true, Bool.not_false, bop_add, bop_sub, cop_eq_int, cop_ne_int, cop_lt_int, cop_le_int, cop_gt_int, cop_ge_int, subW, items_tup, items_lst, items_new, items_ref, itemsL_lst, itemsL_new, itemsL_ref, isCell_ref, sat_bind, sat_ok, z, mkTup_ok (show [W.str "told", PL (plc n row)].length ≤ 100000 by simp)]
      exact ⟨trivial, q⟩
theorem ask_exn (k : Nat) {v w : W} {nm : Int} {cs : List Ob} {x : Xn} (hv : fz v = v) (hw : fz w = w) (h : XX.C (k + 3) 4 [v, w] cs = .exn x cs) {y : W} (h1 : [0, 1].contains x.cls = true)
    (h2 : ∀ ρ : ME, hssE x ρ (.cons (.ife (.or (.isx []) (.not .isv)) (.cons (.ret (.tup (.cons (.str "other") (.cons (.int 0) .nil)))) .nil) .nil) (.cons (.ife (.and (.isx [1]) (.not (.isx [0]))) (.cons (.ret (.tup (.cons (.str "lot") (.cons (.fld "value") .nil)))) .nil) .nil) (.cons (.ife (.and (.isx [0]) (.not (.isx [1]))) (.cons (.ret (.tup (.cons (.str "number") (.cons (.fld "value") .nil)))) .nil) .nil) .nil))) = some (some y)) :
    Sat (XX.C (k + 4) 17 [v, w, .int nm] cs) fun z cs1 => z = y ∧ cs1 = cs := by
  refine Ctx.sat_of at_law_ask (by rfl) ?_
  show Sat (runs (XX.O (k + 3)) b_law_ask [some v, some w, some (.int nm), none] cs) _
  refine sat_cons (sat_try_exn (cs1 := cs) (x := x) (w := y) ?_ h1 (by simp) h1 (h2 _) ⟨rfl, rfl⟩)
  cases c : nm == 1 with
  | true =>
      refine runs_exn ((run_ift (cs1 := cs) (by simp only [ev_bin, ev_cmp, ev_list, ev_tuple, ev_callH, ev_callHK, ev_callP, ev_callPK, ev_blt, ev_sub, ev_neg, ev_not, ev_and, ev_or, ev_isi, ev_int, ev_str, ev_bl, ev_non, ev_var, ev_glob, ev_cel, ev_listJ, ev_meth, ev_sortS, ev_slice, evs_cons, evs_nil, evO_none, evO_some, evC_none, evC_some, evI_ex, evI_range, evI_enum, stillW_tup, srcOf_tup, srcOf_lst, srcOf_new, put_nm, put_tp, putS_cons, putS_nil, wipe_cons, wipe_nil, List.getElem?_cons_succ, List.getElem?_cons_zero, List.set_cons_succ, List.set_cons_zero, bind_ok, noX_ok, ofO_some, fz_int, fz_bl, fz_str, fz_ref, fz_lst, fz_new, fz_tup, fz_scr, fz_non, truth_bl, Bool.not_true, Bool.not_false, bop_add, bop_sub, cop_eq_int, cop_ne_int, cop_lt_int, cop_le_int, cop_gt_int, cop_ge_int, subW, items_tup, items_lst, items_new, items_ref, itemsL_lst, itemsL_new, itemsL_ref, isCell_ref, sat_bind, sat_ok, c])).trans (runs_exn (run_ret_exn ?_)))
      simp only [ev_bin, ev_cmp, ev_list, ev_tuple, ev_callH, ev_callHK, ev_callP, ev_callPK, ev_blt, ev_sub, ev_neg, ev_not, ev_and, ev_or, ev_isi, ev_int, ev_str, ev_bl, ev_non, ev_var, ev_glob, ev_cel, ev_listJ, ev_meth, ev_sortS, ev_slice, evs_cons, evs_nil, evO_none, evO_some, evC_none, evC_some, evI_ex, evI_range, evI_enum, stillW_tup, srcOf_tup, srcOf_lst, srcOf_new, put_nm, put_tp, putS_cons, putS_nil, wipe_cons, wipe_nil, List.getElem?_cons_succ, List.getElem?_cons_zero, List.set_cons_succ, List.set_cons_zero, bind_ok, noX_ok, ofO_some, fz_int, fz_bl, fz_str, fz_ref, fz_lst, fz_new, fz_tup, fz_scr, fz_non, truth_bl, Bool.not_true, Bool.not_false, bop_add, bop_sub, cop_eq_int, cop_ne_int, cop_lt_int, cop_le_int, cop_gt_int, cop_ge_int, subW, items_tup, items_lst, items_new, items_ref, itemsL_lst, itemsL_new, itemsL_ref, isCell_ref, sat_bind, sat_ok, hv, hw, show permute [w, v] [1, 0] = [v, w] from rfl, h, bind_exn]
  | false =>
      rw [runs_nx ((run_iff (cs1 := cs) (by simp only [ev_bin, ev_cmp, ev_list, ev_tuple, ev_callH, ev_callHK, ev_callP, ev_callPK, ev_blt, ev_sub, ev_neg, ev_not, ev_and, ev_or, ev_isi, ev_int, ev_str, ev_bl, ev_non, ev_var, ev_glob, ev_cel, ev_listJ, ev_meth, ev_sortS, ev_slice, evs_cons, evs_nil, evO_none, evO_some, evC_none, evC_some, evI_ex, evI_range, evI_enum, stillW_tup, srcOf_tup, srcOf_lst, srcOf_new, put_nm, put_tp, putS_cons, putS_nil, wipe_cons, wipe_nil, List.getElem?_cons_succ, List.getElem?_cons_zero, List.set_cons_succ, List.set_cons_zero, bind_ok, noX_ok, ofO_some, fz_int, fz_bl, fz_str, fz_ref, fz_lst, fz_new, fz_tup, fz_scr, fz_non, truth_bl, Bool.not_true, Bool.not_false, bop_add, bop_sub, cop_eq_int, cop_ne_int, cop_lt_int, cop_le_int, cop_gt_int, cop_ge_int, subW, items_tup, items_lst, items_new, items_ref, itemsL_lst, itemsL_new, itemsL_ref, isCell_ref, sat_bind, sat_ok, c])).trans (by rw [runs]))]
      refine runs_exn (run_ret_exn ?_)
      simp only [ev_bin, ev_cmp, ev_list, ev_tuple, ev_callH, ev_callHK, ev_callP, ev_callPK, ev_blt, ev_sub, ev_neg, ev_not, ev_and, ev_or, ev_isi, ev_int, ev_str, ev_bl, ev_non, ev_var, ev_glob, ev_cel, ev_listJ, ev_meth, ev_sortS, ev_slice, evs_cons, evs_nil, evO_none, evO_some, evC_none, evC_some, evI_ex, evI_range, evI_enum, stillW_tup, srcOf_tup, srcOf_lst, srcOf_new, put_nm, put_tp, putS_cons, putS_nil, wipe_cons, wipe_nil, List.getElem?_cons_succ, List.getElem?_cons_zero, List.set_cons_succ, List.set_cons_zero, bind_ok, noX_ok, ofO_some, fz_int, fz_bl, fz_str, fz_ref, fz_lst, fz_new, fz_tup, fz_scr, fz_non, truth_bl, Bool.not_true, Bool.not_false, bop_add, bop_sub, cop_eq_int, cop_ne_int, cop_lt_int, cop_le_int, cop_gt_int, cop_ge_int, subW, items_tup, items_lst, items_new, items_ref, itemsL_lst, itemsL_new, itemsL_ref, isCell_ref, sat_bind, sat_ok, hv, hw, h, bind_exn]
theorem c_ask_number (k : Nat) {v w : W} {nm : Int} (hv : At v) (hg : gd 6 v = true) (hf : flat deep v = true) (h : ift v 0 40 = false) (hw : fz w = w) {cs : List Ob} :
    Sat (XX.C (k + 4) 17 [v, w, .int nm] cs) fun z cs1 => z = .tup [.str "number", v] ∧ cs1 = cs :=
  ask_exn k (gd_fz hg) hw (bad_number k hv hg hf h) rfl fun ρ => by
    have e : fz v = v := gd_fz hg
    show some (some (W.tup [.str "number", fz v])) = _
    rw [e]
theorem c_ask_lot (k : Nat) {n : Nat} {w : W} {nm : Int} (hn : n ≤ 40) (hw : Row w) (h : isR w (8 * (n : Int) - 1) = false) {cs : List Ob} :
    Sat (XX.C (k + 4) 17 [.int (n : Int), w, .int nm] cs) fun z cs1 => z = .tup [.str "lot", w] ∧ cs1 = cs :=
  ask_exn k rfl (gd_fz hw.1) (bad_row k hn hw h) rfl fun ρ => by
    have e : fz w = w := gd_fz hw.1
    show some (some (W.tup [.str "lot", fz w])) = _
    rw [e]
end K85
end S_K85p

section S_K85d
set_option Elab.async false
set_option linter.all false
set_option maxRecDepth 100000
set_option maxHeartbeats 2000000
/-! K85d: the draws of placings and rows. -/
namespace K85
open Mi Ev
theorem c_draw (k : Nat) {cs : List Ob} {m : Int} (h : Sr cs) (h1 : 0 < m) (h2 : m < 1073741824) : Sat (XX.C (k + 1) 9 [.ref 2, .int m] cs) fun w cs1 => ∃ v : Int, w = .int v ∧ 0 ≤ v ∧ v < m ∧ Sr cs1 ∧ Kp cs cs1 := Ctx.draw at_law_draw k h h1 h2
theorem mkNew_nums {L : List Int} {cs : List Ob} (h : L.length ≤ 100000) : mkNew (nums L) cs = .ok (.new (nums L)) cs := mkNew_ok (by rwa [nums_len])
theorem blt_sorted {cs : List Ob} {a : W} {X : List Int} (h : items cs a = some (nums X)) (hl : X.length ≤ 1000) : blt .sorted [a] cs = .ok (.new (nums (sortI X))) cs := by
  have e : blt .sorted [a] cs = (match (items cs a).bind intsW with
    | some xs => mkNew ((sortI xs).map .int) cs
    | none => .bad) := rfl
  rw [e, h]
  show (match intsW (nums X) with
    | some xs => mkNew ((sortI xs).map .int) cs
    | none => .bad) = _
  rw [intsW_nums]
  exact mkNew_nums (by rw [(So.sortI_perm X).length_eq]; omega)
/-- stores, each once -/
def Set8 (L : List Int) : Prop := L.Nodup ∧ ∀ x ∈ L, 0 ≤ x ∧ x < 8
theorem Set8.lot {L : List Int} (h : Set8 L) : Lot (sortI L) :=
  ⟨So.lt_of_srt (So.sortI_srt L) ((So.sortI_perm L).nodup_iff.mpr h.1), fun s hs => h.2 s ((So.sortI_perm L).mem_iff.mp hs)⟩
theorem Set8.len {L : List Int} (h : Set8 L) : L.length ≤ 8 := by
  have := h.lot.len
  rwa [(So.sortI_perm L).length_eq] at this
theorem pow_at {s : Nat} (h : s < 8) : ∃ p : Int, 0 < p ∧ p < 1073741824 ∧ at? [.int 1, .int 2, .int 4, .int 8, .int 16, .int 32, .int 64, .int 128] (s : Int) = some (.int p) := by
  have : s = 0 ∨ s = 1 ∨ s = 2 ∨ s = 3 ∨ s = 4 ∨ s = 5 ∨ s = 6 ∨ s = 7 := by omega
  rcases this with rfl | rfl | rfl | rfl | rfl | rfl | rfl | rfl
  · exact ⟨1, by decide, by decide, rfl⟩
  · exact ⟨2, by decide, by decide, rfl⟩
  · exact ⟨4, by decide, by decide, rfl⟩
  · exact ⟨8, by decide, by decide, rfl⟩
  · exact ⟨16, by decide, by decide, rfl⟩
  · exact ⟨32, by decide, by decide, rfl⟩
  · exact ⟨64, by decide, by decide, rfl⟩
  · exact ⟨128, by decide, by decide, rfl⟩
abbrev pows : W := .lst [.int 1, .int 2, .int 4, .int 8, .int 16, .int 32, .int 64, .int 128]
theorem lots_cond {O : Orc} {cs : List Ob} {w0 w5 w10 : W} {st n kd k f se b : Int} {s : Nat} (hs : s < 8) : ∃ c, ev O [some w0, some (.int st), some (.int n), some (.int kd), some pows, some w5, some (.int k), some (.int f), some (.int se), some (.int b), some w10, some (.int (s : Int))] (.and (.cmp .ne (.var 11) (.var 7)) (.or (.and (.cmp .eq (.var 3) (.int 1)) (.cmp .eq (.var 11) (.var 8))) (.and (.cmp .eq (.var 3) (.int 2)) (.cmp .eq (.bin .mod (.bin .fdiv (.var 9) (.sub (.var 4) (.var 11))) (.int 2)) (.int 1))))) cs = .ok (.bl c) cs ∧ (c = true → (s : Int) ≠ f) := by
  obtain ⟨p, p0, p1, ep⟩ := pow_at hs
  simp only [ev_bin, ev_cmp, ev_list, ev_tuple, ev_callH, ev_callHK, ev_callP, ev_callPK, ev_blt, ev_sub, ev_neg, ev_not, ev_and, ev_or, ev_isi, ev_int, ev_str, ev_bl, ev_non, ev_var, ev_glob, ev_cel, ev_listJ, ev_meth, ev_sortS, ev_slice, evs_cons, evs_nil, evO_none, evO_some, evC_none, evC_some, evI_ex, evI_range, evI_enum, stillW_tup, srcOf_tup, srcOf_lst, srcOf_new, put_nm, put_tp, putS_cons, putS_nil, wipe_cons, wipe_nil, List.getElem?_cons_succ, List.getElem?_cons_zero, List.set_cons_succ, List.set_cons_zero, bind_ok, noX_ok, ofO_some, fz_int, fz_bl, fz_str, fz_ref, fz_lst, fz_new, fz_tup, fz_scr, fz_non, truth_bl, Bool.not_true, Bool.not_false, bop_add, bop_sub, cop_eq_int, cop_ne_int, cop_lt_int, cop_le_int, cop_gt_int, cop_ge_int, subW, items_tup, items_lst, items_new, items_ref, itemsL_lst, itemsL_new, itemsL_ref, isCell_ref, sat_bind, sat_ok, ep, bop_fdiv p0 p1, bop_mod (show (0 : Int) < 2 by decide)]
  cases c0 : ((s : Int) == f) with
  | true => exact ⟨false, rfl, nofun⟩
  | false =>
      have hne : (s : Int) ≠ f := by simpa using c0
      cases c1 : kd == 1 <;> cases c2 : (s : Int) == se <;> cases c3 : kd == 2 <;> simp [hne]
theorem c_lots (k : Nat) {st kd : Int} {n : Nat} (h1 : 1 ≤ st) (h8 : st ≤ 8) (hn : n ≤ 40) {cs : List Ob} (hs : Sr cs) :
    Sat (XX.C (k + 2) 11 [.ref 2, .int st, .int (n : Int), .int kd] cs) fun w cs1 => ∃ P, w = PL P ∧ Plc P ∧ P.length = n ∧ Sr cs1 ∧ Ext cs cs1 := by
  refine Ctx.sat_of at_law_lots (by rfl) ?_
  show Sat (runs (XX.O (k + 1)) b_law_lots [some (.ref 2), some (.int st), some (.int (n : Int)), some (.int kd), none, none, none, none, none, none, none, none] cs) _
  have l3 := hs.len
  refine sat_cons (sat_set ?_)
  simp only [ev_bin, ev_cmp, ev_list, ev_tuple, ev_callH, ev_callHK, ev_callP, ev_callPK, ev_blt, ev_sub, ev_neg, ev_not, ev_and, ev_or, ev_isi, ev_int, ev_str, ev_bl, ev_non, ev_var, ev_glob, ev_cel, ev_listJ, ev_meth, ev_sortS, ev_slice, evs_cons, evs_nil, evO_none, evO_some, evC_none, evC_some, evI_ex, evI_range, evI_enum, stillW_tup, srcOf_tup, srcOf_lst, srcOf_new, put_nm, put_tp, putS_cons, putS_nil, wipe_cons, wipe_nil, List.getElem?_cons_succ, List.getElem?_cons_zero, List.set_cons_succ, List.set_cons_zero, bind_ok, noX_ok, ofO_some, fz_int, fz_bl, fz_str, fz_ref, fz_lst, fz_new, fz_tup, fz_scr, fz_non, truth_bl, Bool.not_true, Bool.not_false, bop_add, bop_sub, cop_eq_int, cop_ne_int, cop_lt_int, cop_le_int, cop_gt_int, cop_ge_int, subW, items_tup, items_lst, items_new, items_ref, itemsL_lst, itemsL_new, itemsL_ref, isCell_ref, sat_bind, sat_ok, mkNew_ok (show [W.int 1, W.int 2, W.int 4, W.int 8, W.int 16, W.int 32, W.int 64, W.int 128].length ≤ 100000 by simp)]
  refine sat_cons (sat_set ?_)
  simp only [ev_bin, ev_cmp, ev_list, ev_tuple, ev_callH, ev_callHK, ev_callP, ev_callPK, ev_blt, ev_sub, ev_neg, ev_not, ev_and, ev_or, ev_isi, ev_int, ev_str, ev_bl, ev_non, ev_var, ev_glob, ev_cel, ev_listJ, ev_meth, ev_sortS, ev_slice, evs_cons, evs_nil, evO_none, evO_some, evC_none, evC_some, evI_ex, evI_range, evI_enum, stillW_tup, srcOf_tup, srcOf_lst, srcOf_new, put_nm, put_tp, putS_cons, putS_nil, wipe_cons, wipe_nil, List.getElem?_cons_succ, List.getElem?_cons_zero, List.set_cons_succ, List.set_cons_zero, bind_ok, noX_ok, ofO_some, fz_int, fz_bl, fz_str, fz_ref, fz_lst, fz_new, fz_tup, fz_scr, fz_non, truth_bl, Bool.not_true, Bool.not_false, bop_add, bop_sub, cop_eq_int, cop_ne_int, cop_lt_int, cop_le_int, cop_gt_int, cop_ge_int, subW, items_tup, items_lst, items_new, items_ref, itemsL_lst, itemsL_new, itemsL_ref, isCell_ref, sat_bind, sat_ok, mkNew_ok (show ([] : List W).length ≤ 100000 by simp)]
  refine sat_cons ?_
  refine sat_for_ix (xs := rangeI 0 n) (by simp only [ev_bin, ev_cmp, ev_list, ev_tuple, ev_callH, ev_callHK, ev_callP, ev_callPK, ev_blt, ev_sub, ev_neg, ev_not, ev_and, ev_or, ev_isi, ev_int, ev_str, ev_bl, ev_non, ev_var, ev_glob, ev_cel, ev_listJ, ev_meth, ev_sortS, ev_slice, evs_cons, evs_nil, evO_none, evO_some, evC_none, evC_some, evI_ex, evI_range, evI_enum, stillW_tup, srcOf_tup, srcOf_lst, srcOf_new, put_nm, put_tp, putS_cons, putS_nil, wipe_cons, wipe_nil, List.getElem?_cons_succ, List.getElem?_cons_zero, List.set_cons_succ, List.set_cons_zero, bind_ok, noX_ok, ofO_some, fz_int, fz_bl, fz_str, fz_ref, fz_lst, fz_new, fz_tup, fz_scr, fz_non, truth_bl, Bool.not_true, Bool.not_false, bop_add, bop_sub, cop_eq_int, cop_ne_int, cop_lt_int, cop_le_int, cop_gt_int, cop_ge_int, subW, items_tup, items_lst, items_new, items_ref, itemsL_lst, itemsL_new, itemsL_ref, isCell_ref, sat_bind, sat_ok, rangeW_n (show n ≤ 99999 by omega)]) (I := fun j ρ cs1 => ∃ (P : List (List Int)) (o6 o7 o8 o9 o10 o11 : Option W), Plc P ∧ P.length = j ∧ Sr cs1 ∧ Ext cs cs1 ∧ cs.length < cs1.length ∧ cellL cs1 cs.length = some (P.map fun l => tI l) ∧ ρ = [some (.ref 2), some (.int st), some (.int (n : Int)), some (.int kd), some pows, some (.ref cs.length), o6, o7, o8, o9, o10, o11]) ?_ ?_ ?_
  · exact ⟨[], none, none, none, none, none, none, nofun, rfl, hs.app, Ext.app, by simp, cellL_end, rfl⟩
  · rintro j x ρ cs1 hx ⟨P, o6, o7, o8, o9, o10, o11, hP, hj, hs1, hx1, hl1, hc1, rfl⟩
    obtain ⟨hjn, rfl⟩ := rangeI_get hx
    rw [Int.zero_add]
    simp only [ev_bin, ev_cmp, ev_list, ev_tuple, ev_callH, ev_callHK, ev_callP, ev_callPK, ev_blt, ev_sub, ev_neg, ev_not, ev_and, ev_or, ev_isi, ev_int, ev_str, ev_bl, ev_non, ev_var, ev_glob, ev_cel, ev_listJ, ev_meth, ev_sortS, ev_slice, evs_cons, evs_nil, evO_none, evO_some, evC_none, evC_some, evI_ex, evI_range, evI_enum, stillW_tup, srcOf_tup, srcOf_lst, srcOf_new, put_nm, put_tp, putS_cons, putS_nil, wipe_cons, wipe_nil, List.getElem?_cons_succ, List.getElem?_cons_zero, List.set_cons_succ, List.set_cons_zero, bind_ok, noX_ok, ofO_some, fz_int, fz_bl, fz_str, fz_ref, fz_lst, fz_new, fz_tup, fz_scr, fz_non, truth_bl, Bool.not_true, Bool.not_false, bop_add, bop_sub, cop_eq_int, cop_ne_int, cop_lt_int, cop_le_int, cop_gt_int, cop_ge_int, subW, items_tup, items_lst, items_new, items_ref, itemsL_lst, itemsL_new, itemsL_ref, isCell_ref, sat_bind, sat_ok]
    refine sat_cons (sat_set ?_)
    simp only [ev_bin, ev_cmp, ev_list, ev_tuple, ev_callH, ev_callHK, ev_callP, ev_callPK, ev_blt, ev_sub, ev_neg, ev_not, ev_and, ev_or, ev_isi, ev_int, ev_str, ev_bl, ev_non, ev_var, ev_glob, ev_cel, ev_listJ, ev_meth, ev_sortS, ev_slice, evs_cons, evs_nil, evO_none, evO_some, evC_none, evC_some, evI_ex, evI_range, evI_enum, stillW_tup, srcOf_tup, srcOf_lst, srcOf_new, put_nm, put_tp, putS_cons, putS_nil, wipe_cons, wipe_nil, List.getElem?_cons_succ, List.getElem?_cons_zero, List.set_cons_succ, List.set_cons_zero, bind_ok, noX_ok, ofO_some, fz_int, fz_bl, fz_str, fz_ref, fz_lst, fz_new, fz_tup, fz_scr, fz_non, truth_bl, Bool.not_true, Bool.not_false, bop_add, bop_sub, cop_eq_int, cop_ne_int, cop_lt_int, cop_le_int, cop_gt_int, cop_ge_int, subW, items_tup, items_lst, items_new, items_ref, itemsL_lst, itemsL_new, itemsL_ref, isCell_ref, sat_bind, sat_ok]
    refine (c_draw k hs1 (by omega) (by omega)).mono fun w cs2 z => ?_
    obtain ⟨f, rfl, f0, f1, hs2, k2⟩ := z
    simp only [ev_bin, ev_cmp, ev_list, ev_tuple, ev_callH, ev_callHK, ev_callP, ev_callPK, ev_blt, ev_sub, ev_neg, ev_not, ev_and, ev_or, ev_isi, ev_int, ev_str, ev_bl, ev_non, ev_var, ev_glob, ev_cel, ev_listJ, ev_meth, ev_sortS, ev_slice, evs_cons, evs_nil, evO_none, evO_some, evC_none, evC_some, evI_ex, evI_range, evI_enum, stillW_tup, srcOf_tup, srcOf_lst, srcOf_new, put_nm, put_tp, putS_cons, putS_nil, wipe_cons, wipe_nil, List.getElem?_cons_succ, List.getElem?_cons_zero, List.set_cons_succ, List.set_cons_zero, bind_ok, noX_ok, ofO_some, fz_int, fz_bl, fz_str, fz_ref, fz_lst, fz_new, fz_tup, fz_scr, fz_non, truth_bl, Bool.not_true, Bool.not_false, bop_add, bop_sub, cop_eq_int, cop_ne_int, cop_lt_int, cop_le_int, cop_gt_int, cop_ge_int, subW, items_tup, items_lst, items_new, items_ref, itemsL_lst, itemsL_new, itemsL_ref, isCell_ref, sat_bind, sat_ok]
    refine sat_cons (sat_set ?_)
    simp only [ev_bin, ev_cmp, ev_list, ev_tuple, ev_callH, ev_callHK, ev_callP, ev_callPK, ev_blt, ev_sub, ev_neg, ev_not, ev_and, ev_or, ev_isi, ev_int, ev_str, ev_bl, ev_non, ev_var, ev_glob, ev_cel, ev_listJ, ev_meth, ev_sortS, ev_slice, evs_cons, evs_nil, evO_none, evO_some, evC_none, evC_some, evI_ex, evI_range, evI_enum, stillW_tup, srcOf_tup, srcOf_lst, srcOf_new, put_nm, put_tp, putS_cons, putS_nil, wipe_cons, wipe_nil, List.getElem?_cons_succ, List.getElem?_cons_zero, List.set_cons_succ, List.set_cons_zero, bind_ok, noX_ok, ofO_some, fz_int, fz_bl, fz_str, fz_ref, fz_lst, fz_new, fz_tup, fz_scr, fz_non, truth_bl, Bool.not_true, Bool.not_false, bop_add, bop_sub, cop_eq_int, cop_ne_int, cop_lt_int, cop_le_int, cop_gt_int, cop_ge_int, subW, items_tup, items_lst, items_new, items_ref, itemsL_lst, itemsL_new, itemsL_ref, isCell_ref, sat_bind, sat_ok]
    refine (c_draw k hs2 (by omega) (by omega)).mono fun w cs3 z => ?_
    obtain ⟨se, rfl, s0, s1, hs3, k3⟩ := z
    simp only [ev_bin, ev_cmp, ev_list, ev_tuple, ev_callH, ev_callHK, ev_callP, ev_callPK, ev_blt, ev_sub, ev_neg, ev_not, ev_and, ev_or, ev_isi, ev_int, ev_str, ev_bl, ev_non, ev_var, ev_glob, ev_cel, ev_listJ, ev_meth, ev_sortS, ev_slice, evs_cons, evs_nil, evO_none, evO_some, evC_none, evC_some, evI_ex, evI_range, evI_enum, stillW_tup, srcOf_tup, srcOf_lst, srcOf_new, put_nm, put_tp, putS_cons, putS_nil, wipe_cons, wipe_nil, List.getElem?_cons_succ, List.getElem?_cons_zero, List.set_cons_succ, List.set_cons_zero, bind_ok, noX_ok, ofO_some, fz_int, fz_bl, fz_str, fz_ref, fz_lst, fz_new, fz_tup, fz_scr, fz_non, truth_bl, Bool.not_true, Bool.not_false, bop_add, bop_sub, cop_eq_int, cop_ne_int, cop_lt_int, cop_le_int, cop_gt_int, cop_ge_int, subW, items_tup, items_lst, items_new, items_ref, itemsL_lst, itemsL_new, itemsL_ref, isCell_ref, sat_bind, sat_ok]
    refine sat_cons (sat_set ?_)
    simp only [ev_bin, ev_cmp, ev_list, ev_tuple, ev_callH, ev_callHK, ev_callP, ev_callPK, ev_blt, ev_sub, ev_neg, ev_not, ev_and, ev_or, ev_isi, ev_int, ev_str, ev_bl, ev_non, ev_var, ev_glob, ev_cel, ev_listJ, ev_meth, ev_sortS, ev_slice, evs_cons, evs_nil, evO_none, evO_some, evC_none, evC_some, evI_ex, evI_range, evI_enum, stillW_tup, srcOf_tup, srcOf_lst, srcOf_new, put_nm, put_tp, putS_cons, putS_nil, wipe_cons, wipe_nil, List.getElem?_cons_succ, List.getElem?_cons_zero, List.set_cons_succ, List.set_cons_zero, bind_ok, noX_ok, ofO_some, fz_int, fz_bl, fz_str, fz_ref, fz_lst, fz_new, fz_tup, fz_scr, fz_non, truth_bl, Bool.not_true, Bool.not_false, bop_add, bop_sub, cop_eq_int, cop_ne_int, cop_lt_int, cop_le_int, cop_gt_int, cop_ge_int, subW, items_tup, items_lst, items_new, items_ref, itemsL_lst, itemsL_new, itemsL_ref, isCell_ref, sat_bind, sat_ok]
    refine (c_draw k hs3 (by decide) (by decide)).mono fun w cs4 z => ?_
    obtain ⟨b, rfl, b0, b1, hs4, k4⟩ := z
    simp only [ev_bin, ev_cmp, ev_list, ev_tuple, ev_callH, ev_callHK, ev_callP, ev_callPK, ev_blt, ev_sub, ev_neg, ev_not, ev_and, ev_or, ev_isi, ev_int, ev_str, ev_bl, ev_non, ev_var, ev_glob, ev_cel, ev_listJ, ev_meth, ev_sortS, ev_slice, evs_cons, evs_nil, evO_none, evO_some, evC_none, evC_some, evI_ex, evI_range, evI_enum, stillW_tup, srcOf_tup, srcOf_lst, srcOf_new, put_nm, put_tp, putS_cons, putS_nil, wipe_cons, wipe_nil, List.getElem?_cons_succ, List.getElem?_cons_zero, List.set_cons_succ, List.set_cons_zero, bind_ok, noX_ok, ofO_some, fz_int, fz_bl, fz_str, fz_ref, fz_lst, fz_new, fz_tup, fz_scr, fz_non, truth_bl, Bool.not_true, Bool.not_false, bop_add, bop_sub, cop_eq_int, cop_ne_int, cop_lt_int, cop_le_int, cop_gt_int, cop_ge_int, subW, items_tup, items_lst, items_new, items_ref, itemsL_lst, itemsL_new, itemsL_ref, isCell_ref, sat_bind, sat_ok]
    have x4 : Ext cs cs4 := hx1.trans (k2.ext.trans (k3.ext.trans k4.ext))
    have l4 : cs.length < cs4.length := by have := k2.1; have := k3.1; have := k4.1; omega
    have c4 : cellL cs4 cs.length = some (P.map fun l => tI l) := by rw [k4.cell (by omega) (by omega), k3.cell (by omega) (by omega), k2.cell (by omega) (by omega)]; exact hc1
    refine sat_cons (sat_set ?_)
    simp only [ev_bin, ev_cmp, ev_list, ev_tuple, ev_callH, ev_callHK, ev_callP, ev_callPK, ev_blt, ev_sub, ev_neg, ev_not, ev_and, ev_or, ev_isi, ev_int, ev_str, ev_bl, ev_non, ev_var, ev_glob, ev_cel, ev_listJ, ev_meth, ev_sortS, ev_slice, evs_cons, evs_nil, evO_none, evO_some, evC_none, evC_some, evI_ex, evI_range, evI_enum, stillW_tup, srcOf_tup, srcOf_lst, srcOf_new, put_nm, put_tp, putS_cons, putS_nil, wipe_cons, wipe_nil, List.getElem?_cons_succ, List.getElem?_cons_zero, List.set_cons_succ, List.set_cons_zero, bind_ok, noX_ok, ofO_some, fz_int, fz_bl, fz_str, fz_ref, fz_lst, fz_new, fz_tup, fz_scr, fz_non, truth_bl, Bool.not_true, Bool.not_false, bop_add, bop_sub, cop_eq_int, cop_ne_int, cop_lt_int, cop_le_int, cop_gt_int, cop_ge_int, subW, items_tup, items_lst, items_new, items_ref, itemsL_lst, itemsL_new, itemsL_ref, isCell_ref, sat_bind, sat_ok, mkNew_ok (show [W.int f].length ≤ 100000 by simp)]
    refine sat_go (fun ρ cs5 => ∃ (L : List Int) (o11 : Option W), Set8 L ∧ Sr cs5 ∧ Ext cs cs5 ∧ cs4.length < cs5.length ∧ cellL cs5 cs.length = some (P.map fun l => tI l) ∧ cellL cs5 cs4.length = some (nums L) ∧ ρ = [some (.ref 2), some (.int st), some (.int (n : Int)), some (.int kd), some pows, some (.ref cs.length), some (.int (j : Int)), some (.int f), some (.int se), some (.int b), some (.ref cs4.length), o11]) ?_ ?_
    · obtain ⟨m, hm⟩ : ∃ m : Nat, st = (m : Int) := ⟨st.toNat, by omega⟩
      refine sat_for_ix (xs := rangeI 0 m) (by simp only [ev_bin, ev_cmp, ev_list, ev_tuple, ev_callH, ev_callHK, ev_callP, ev_callPK, ev_blt, ev_sub, ev_neg, ev_not, ev_and, ev_or, ev_isi, ev_int, ev_str, ev_bl, ev_non, ev_var, ev_glob, ev_cel, ev_listJ, ev_meth, ev_sortS, ev_slice, evs_cons, evs_nil, evO_none, evO_some, evC_none, evC_some, evI_ex, evI_range, evI_enum, stillW_tup, srcOf_tup, srcOf_lst, srcOf_new, put_nm, put_tp, putS_cons, putS_nil, wipe_cons, wipe_nil, List.getElem?_cons_succ, List.getElem?_cons_zero, List.set_cons_succ, List.set_cons_zero, bind_ok, noX_ok, ofO_some, fz_int, fz_bl, fz_str, fz_ref, fz_lst, fz_new, fz_tup, fz_scr, fz_non, truth_bl, Bool.not_true, Bool.not_false, bop_add, bop_sub, cop_eq_int, cop_ne_int, cop_lt_int, cop_le_int, cop_gt_int, cop_ge_int, subW, items_tup, items_lst, items_new, items_ref, itemsL_lst, itemsL_new, itemsL_ref, isCell_ref, sat_bind, sat_ok, hm, rangeW_n (show m ≤ 99999 by omega)]) (I := fun i ρ cs5 => ∃ (L : List Int) (o11 : Option W), Set8 L ∧ (∀ x ∈ L, x = f ∨ x < (i : Int)) ∧ Sr cs5 ∧ Ext cs cs5 ∧ cs4.length < cs5.length ∧ cellL cs5 cs.length = some (P.map fun l => tI l) ∧ cellL cs5 cs4.length = some (nums L) ∧ ρ = [some (.ref 2), some (.int st), some (.int (n : Int)), some (.int kd), some pows, some (.ref cs.length), some (.int (j : Int)), some (.int f), some (.int se), some (.int b), some (.ref cs4.length), o11]) ?_ ?_ ?_
      · exact ⟨[f], _, ⟨by simp, fun x hx => (show x = f by simpa using hx) ▸ ⟨f0, by omega⟩⟩, fun x hx => .inl (by simpa using hx), hs4.app, x4.trans Ext.app, by simp, by rw [cellL_app l4]; exact c4, cellL_end, rfl⟩
      · rintro i x ρ cs5 hx ⟨L, o11, hL, hLi, hs5, x5, l5, c5, d5, rfl⟩
        obtain ⟨him, rfl⟩ := rangeI_get hx
        rw [Int.zero_add]
        simp only [ev_bin, ev_cmp, ev_list, ev_tuple, ev_callH, ev_callHK, ev_callP, ev_callPK, ev_blt, ev_sub, ev_neg, ev_not, ev_and, ev_or, ev_isi, ev_int, ev_str, ev_bl, ev_non, ev_var, ev_glob, ev_cel, ev_listJ, ev_meth, ev_sortS, ev_slice, evs_cons, evs_nil, evO_none, evO_some, evC_none, evC_some, evI_ex, evI_range, evI_enum, stillW_tup, srcOf_tup, srcOf_lst, srcOf_new, put_nm, put_tp, putS_cons, putS_nil, wipe_cons, wipe_nil, List.getElem?_cons_succ, List.getElem?_cons_zero, List.set_cons_succ, List.set_cons_zero, bind_ok, noX_ok, ofO_some, fz_int, fz_bl, fz_str, fz_ref, fz_lst, fz_new, fz_tup, fz_scr, fz_non, truth_bl, Bool.not_true, Bool.not_false, bop_add, bop_sub, cop_eq_int, cop_ne_int, cop_lt_int, cop_le_int, cop_gt_int, cop_ge_int, subW, items_tup, items_lst, items_new, items_ref, itemsL_lst, itemsL_new, itemsL_ref, isCell_ref, sat_bind, sat_ok]
        refine sat_cons (sat_if ?_)
        obtain ⟨c, ec, hc⟩ := lots_cond (O := XX.O (k + 1)) (cs := cs5) (w0 := .ref 2) (w5 := .ref cs.length) (w10 := .ref cs4.length) (st := st) (n := (n : Int)) (kd := kd) (k := (j : Int)) (f := f) (se := se) (b := b) (s := i) (by omega)
        rw [ec, sat_ok]
        cases c with
        | false => exact sat_nil (sat_nil ⟨L, _, hL, fun x hx => (hLi x hx).imp id fun h => by omega, hs5, x5, l5, c5, d5, rfl⟩)
        | true =>
            have hif := hc rfl
            have l8 := hL.len
            refine sat_cons (sat_ex ?_)
            simp only [ev_bin, ev_cmp, ev_list, ev_tuple, ev_callH, ev_callHK, ev_callP, ev_callPK, ev_blt, ev_sub, ev_neg, ev_not, ev_and, ev_or, ev_isi, ev_int, ev_str, ev_bl, ev_non, ev_var, ev_glob, ev_cel, ev_listJ, ev_meth, ev_sortS, ev_slice, evs_cons, evs_nil, evO_none, evO_some, evC_none, evC_some, evI_ex, evI_range, evI_enum, stillW_tup, srcOf_tup, srcOf_lst, srcOf_new, put_nm, put_tp, putS_cons, putS_nil, wipe_cons, wipe_nil, List.getElem?_cons_succ, List.getElem?_cons_zero, List.set_cons_succ, List.set_cons_zero, bind_ok, noX_ok, ofO_some, fz_int, fz_bl, fz_str, fz_ref, fz_lst, fz_new, fz_tup, fz_scr, fz_non, truth_bl, Bool.not_true, Bool.not_false, bop_add, bop_sub, cop_eq_int, cop_ne_int, cop_lt_int, cop_le_int, cop_gt_int, cop_ge_int, subW, items_tup, items_lst, items_new, items_ref, itemsL_lst, itemsL_new, itemsL_ref, isCell_ref, sat_bind, sat_ok, d5, Option.isSome_some, if_true, meth_append d5 (w := .int (i : Int)) (by rw [nums_len]; omega)]
            refine sat_nil (sat_nil ⟨L ++ [(i : Int)], _, ⟨?_, ?_⟩, ?_, hs5.set (by omega), x5.set (by omega), by rw [List.length_set]; exact l5, by rw [cellL_other (by omega)]; exact c5, by rw [cellL_same (by omega), nums_snoc], rfl⟩)
            · rw [List.nodup_append]
              refine ⟨hL.1, by simp, fun a ha c hc e => ?_⟩
              have e2 : c = (i : Int) := by simpa using hc
              rcases hLi a ha with h | h <;> omega
            · intro x hx
              rcases List.mem_append.mp hx with h | h
              · exact hL.2 x h
              · have : x = (i : Int) := by simpa using h
                omega
            · intro x hx
              rcases List.mem_append.mp hx with h | h
              · exact (hLi x h).imp id fun h => by omega
              · have : x = (i : Int) := by simpa using h
                exact .inr (by omega)
      · rintro ρ cs5 ⟨L, o11, hL, hLi, hs5, x5, l5, c5, d5, rfl⟩
        exact ⟨_, rfl, L, _, hL, hs5, x5, l5, c5, d5, rfl⟩
    · rintro ρ cs5 ⟨L, o11, hL, hs5, x5, l5, c5, d5, rfl⟩
      have l8 := hL.len
      have s8 := hL.lot.len
      refine sat_cons (sat_ex ?_)
      have e5 := meth_append c5 (w := tI (sortI L)) (by rw [List.length_map]; omega)
      simp only [ev_bin, ev_cmp, ev_list, ev_tuple, ev_callH, ev_callHK, ev_callP, ev_callPK, ev_blt, ev_sub, ev_neg, ev_not, ev_and, ev_or, ev_isi, ev_int, ev_str, ev_bl, ev_non, ev_var, ev_glob, ev_cel, ev_listJ, ev_meth, ev_sortS, ev_slice, evs_cons, evs_nil, evO_none, evO_some, evC_none, evC_some, evI_ex, evI_range, evI_enum, stillW_tup, srcOf_tup, srcOf_lst, srcOf_new, put_nm, put_tp, putS_cons, putS_nil, wipe_cons, wipe_nil, List.getElem?_cons_succ, List.getElem?_cons_zero, List.set_cons_succ, List.set_cons_zero, bind_ok, noX_ok, ofO_some, fz_int, fz_bl, fz_str, fz_ref, fz_lst, fz_new, fz_tup, fz_scr, fz_non, truth_bl, Bool.not_true, Bool.not_false, bop_add, bop_sub, cop_eq_int, cop_ne_int, cop_lt_int, cop_le_int, cop_gt_int, cop_ge_int, subW, items_tup, items_lst, items_new, items_ref, itemsL_lst, itemsL_new, itemsL_ref, isCell_ref, sat_bind, sat_ok, c5, d5, Option.isSome_some, if_true, blt_sorted (a := .ref cs4.length) (cs := cs5) (X := L) (by rw [items_ref]; exact d5) (by omega), blt_tuple_lst, mkTup_ok (show (nums (sortI L)).length ≤ 100000 by rw [nums_len]; omega), e5]
      refine sat_nil ⟨P ++ [sortI L], _, _, _, _, _, _, fun l hl => ?_, by simp [hj], hs5.set (by omega), x5.set (by omega), by rw [List.length_set]; omega, by rw [cellL_same (by omega), List.map_append]; rfl, rfl⟩
      rcases List.mem_append.mp hl with h | h
      · exact hP l h
      · have : l = sortI L := by simpa using h
        rw [this]
        exact hL.lot
  · rintro ρ cs1 ⟨P, o6, o7, o8, o9, o10, o11, hP, hj, hs1, hx1, hl1, hc1, rfl⟩
    rw [rangeI_len] at hj
    refine sat_cons (sat_ret ?_)
    simp only [ev_bin, ev_cmp, ev_list, ev_tuple, ev_callH, ev_callHK, ev_callP, ev_callPK, ev_blt, ev_sub, ev_neg, ev_not, ev_and, ev_or, ev_isi, ev_int, ev_str, ev_bl, ev_non, ev_var, ev_glob, ev_cel, ev_listJ, ev_meth, ev_sortS, ev_slice, evs_cons, evs_nil, evO_none, evO_some, evC_none, evC_some, evI_ex, evI_range, evI_enum, stillW_tup, srcOf_tup, srcOf_lst, srcOf_new, put_nm, put_tp, putS_cons, putS_nil, wipe_cons, wipe_nil, List.getElem?_cons_succ, List.getElem?_cons_zero, List.set_cons_succ, List.set_cons_zero, bind_ok, noX_ok, ofO_some, fz_int, fz_bl, fz_str, fz_ref, fz_lst, fz_new, fz_tup, fz_scr, fz_non, truth_bl, Bool.not_true, Bool.not_false, bop_add, bop_sub, cop_eq_int, cop_ne_int, cop_lt_int, cop_le_int, cop_gt_int, cop_ge_int, subW, items_tup, items_lst, items_new, items_ref, itemsL_lst, itemsL_new, itemsL_ref, isCell_ref, sat_bind, sat_ok, blt_tuple_ref hc1, mkTup_ok (show (P.map fun l => tI l).length ≤ 100000 by rw [List.length_map]; omega)]
    exact ⟨P, rfl, hP, hj, hs1, hx1⟩
/-! ### a placing changed -/
def refsF (a n : Nat) : List W := (List.range n).map fun p => W.ref (a + p)
theorem refsF_succ (a n : Nat) : refsF a (n + 1) = refsF a n ++ [.ref (a + n)] := by simp [refsF, List.range_succ]
theorem refsF_at {a n p : Nat} (h : p < n) : at? (refsF a n) (p : Int) = some (.ref (a + p)) := by
  rw [at?, show (refsF a n).length = n by simp [refsF], place_nat h]
  show (refsF a n)[p]? = _
  rw [refsF, List.getElem?_map, List.getElem?_range h]
  rfl
theorem meth_remove {cs : List Ob} {n : Nat} {L : List Int} {i : Int} (h : cellL cs n = some (nums L)) (hm : L.contains i = true) : meth .remove (.ref n) [.int i] cs = .ok .non (cs.set n (.lst (nums (L.eraseIdx (L.idxOf i))))) := by
  simp only [meth, h, intsW_nums, hm, if_true]
  rfl
/-- what a row's cell holds -/
def rowAt (cs : List Ob) (q : Nat) : List Int := ((cellL cs q).bind intsW).getD []
theorem rowAt_of {cs : List Ob} {q : Nat} {L : List Int} (h : cellL cs q = some (nums L)) : rowAt cs q = L := by
  rw [rowAt, h]
  simp
theorem c_changed (k : Nat) {st : Int} {m : Nat} {P : List (List Int)} (h1 : 1 ≤ st) (h8 : st ≤ 8) (hP : Plc P) (hn : P.length ≤ 40) (hm : m ≤ 100) {cs : List Ob} (hs : Sr cs) :
    Sat (XX.C (k + 2) 12 [.ref 2, PL P, .int st, .int (m : Int)] cs) fun w cs1 => ∃ P', w = PL P' ∧ Plc P' ∧ P'.length = P.length ∧ Sr cs1 ∧ Ext cs cs1 := by
  refine Ctx.sat_of at_law_changed (by rfl) ?_
  show Sat (runs (XX.O (k + 1)) b_law_changed [some (.ref 2), some (PL P), some (.int st), some (.int (m : Int)), none, none, none, none, none] cs) _
  have l3 := hs.len
  refine sat_cons (sat_set ?_)
  refine sat_comp_ix (xs := P.map fun l => tI l) (cs := cs) (by simp only [ev_bin, ev_cmp, ev_list, ev_tuple, ev_callH, ev_callHK, ev_callP, ev_callPK, ev_blt, ev_sub, ev_neg, ev_not, ev_and, ev_or, ev_isi, ev_int, ev_str, ev_bl, ev_non, ev_var, ev_glob, ev_cel, ev_listJ, ev_meth, ev_sortS, ev_slice, evs_cons, evs_nil, evO_none, evO_some, evC_none, evC_some, evI_ex, evI_range, evI_enum, stillW_tup, srcOf_tup, srcOf_lst, srcOf_new, put_nm, put_tp, putS_cons, putS_nil, wipe_cons, wipe_nil, List.getElem?_cons_succ, List.getElem?_cons_zero, List.set_cons_succ, List.set_cons_zero, bind_ok, noX_ok, ofO_some, fz_int, fz_bl, fz_str, fz_ref, fz_lst, fz_new, fz_tup, fz_scr, fz_non, truth_bl, Bool.not_true, Bool.not_false, bop_add, bop_sub, cop_eq_int, cop_ne_int, cop_lt_int, cop_le_int, cop_gt_int, cop_ge_int, subW, items_tup, items_lst, items_new, items_ref, itemsL_lst, itemsL_new, itemsL_ref, isCell_ref, sat_bind, sat_ok, PL]) (I := fun j ys cs1 => ys = refsF cs.length j ∧ Sr cs1 ∧ Ext cs cs1 ∧ cs1.length = cs.length + j ∧ ∀ p, p < j → ∃ L, cellL cs1 (cs.length + p) = some (nums L) ∧ Set8 L) (by rw [List.length_map]; omega) ⟨rfl, hs, Ext.refl, rfl, fun p hp => absurd hp (Nat.not_lt_zero _)⟩ ?_ ?_
  · rintro j x ys cs1 hx ⟨rfl, hs1, hx1, hl1, hc1⟩
    rw [List.getElem?_map] at hx
    obtain ⟨l, hl, rfl⟩ := Option.map_eq_some_iff.mp hx
    have hL := hP l (List.mem_of_getElem? hl)
    have l8 := hL.len
    simp only [ev_bin, ev_cmp, ev_list, ev_tuple, ev_callH, ev_callHK, ev_callP, ev_callPK, ev_blt, ev_sub, ev_neg, ev_not, ev_and, ev_or, ev_isi, ev_int, ev_str, ev_bl, ev_non, ev_var, ev_glob, ev_cel, ev_listJ, ev_meth, ev_sortS, ev_slice, evs_cons, evs_nil, evO_none, evO_some, evC_none, evC_some, evI_ex, evI_range, evI_enum, stillW_tup, srcOf_tup, srcOf_lst, srcOf_new, put_nm, put_tp, putS_cons, putS_nil, wipe_cons, wipe_nil, List.getElem?_cons_succ, List.getElem?_cons_zero, List.set_cons_succ, List.set_cons_zero, bind_ok, noX_ok, ofO_some, fz_int, fz_bl, fz_str, fz_ref, fz_lst, fz_new, fz_tup, fz_scr, fz_non, truth_bl, Bool.not_true, Bool.not_false, bop_add, bop_sub, cop_eq_int, cop_ne_int, cop_lt_int, cop_le_int, cop_gt_int, cop_ge_int, subW, items_tup, items_lst, items_new, items_ref, itemsL_lst, itemsL_new, itemsL_ref, isCell_ref, sat_bind, sat_ok, show blt .list [W.tup (nums l)] cs1 = mkNew (nums l) cs1 from rfl, mkNew_nums (L := l) (cs := cs1) (by omega), if_true]
    refine ⟨by rw [refsF_succ, hl1]; rfl, hs1.app, hx1.trans Ext.app, by simp; omega, fun p hp => ?_⟩
    by_cases c : p = j
    · subst c
      rw [← hl1]
      exact ⟨l, cellL_end, hL.1.imp fun h => by omega, hL.2⟩
    · rw [cellL_app (by omega)]
      exact hc1 p (by omega)
  rintro ys cs1 ⟨rfl, hs1, hx1, hl1, hc1⟩ _
  rw [List.length_map] at hl1 hc1 ⊢
  simp only [ev_bin, ev_cmp, ev_list, ev_tuple, ev_callH, ev_callHK, ev_callP, ev_callPK, ev_blt, ev_sub, ev_neg, ev_not, ev_and, ev_or, ev_isi, ev_int, ev_str, ev_bl, ev_non, ev_var, ev_glob, ev_cel, ev_listJ, ev_meth, ev_sortS, ev_slice, evs_cons, evs_nil, evO_none, evO_some, evC_none, evC_some, evI_ex, evI_range, evI_enum, stillW_tup, srcOf_tup, srcOf_lst, srcOf_new, put_nm, put_tp, putS_cons, putS_nil, wipe_cons, wipe_nil, List.getElem?_cons_succ, List.getElem?_cons_zero, List.set_cons_succ, List.set_cons_zero, bind_ok, noX_ok, ofO_some, fz_int, fz_bl, fz_str, fz_ref, fz_lst, fz_new, fz_tup, fz_scr, fz_non, truth_bl, Bool.not_true, Bool.not_false, bop_add, bop_sub, cop_eq_int, cop_ne_int, cop_lt_int, cop_le_int, cop_gt_int, cop_ge_int, subW, items_tup, items_lst, items_new, items_ref, itemsL_lst, itemsL_new, itemsL_ref, isCell_ref, sat_bind, sat_ok]
  have rl : (refsF cs.length P.length).length = P.length := by simp [refsF]
  refine sat_cons ?_
  refine sat_for_ix (xs := rangeI 0 m) (by simp only [ev_bin, ev_cmp, ev_list, ev_tuple, ev_callH, ev_callHK, ev_callP, ev_callPK, ev_blt, ev_sub, ev_neg, ev_not, ev_and, ev_or, ev_isi, ev_int, ev_str, ev_bl, ev_non, ev_var, ev_glob, ev_cel, ev_listJ, ev_meth, ev_sortS, ev_slice, evs_cons, evs_nil, evO_none, evO_some, evC_none, evC_some, evI_ex, evI_range, evI_enum, stillW_tup, srcOf_tup, srcOf_lst, srcOf_new, put_nm, put_tp, putS_cons, putS_nil, wipe_cons, wipe_nil, List.getElem?_cons_succ, List.getElem?_cons_zero, List.set_cons_succ, List.set_cons_zero, bind_ok, noX_ok, ofO_some, fz_int, fz_bl, fz_str, fz_ref, fz_lst, fz_new, fz_tup, fz_scr, fz_non, truth_bl, Bool.not_true, Bool.not_false, bop_add, bop_sub, cop_eq_int, cop_ne_int, cop_lt_int, cop_le_int, cop_gt_int, cop_ge_int, subW, items_tup, items_lst, items_new, items_ref, itemsL_lst, itemsL_new, itemsL_ref, isCell_ref, sat_bind, sat_ok, rangeW_n (show m ≤ 99999 by omega)]) (I := fun j ρ cs1 => ∃ (o5 o6 o7 o8 : Option W), Sr cs1 ∧ Ext cs cs1 ∧ cs1.length = cs.length + P.length ∧ (∀ p, p < P.length → ∃ L, cellL cs1 (cs.length + p) = some (nums L) ∧ Set8 L) ∧ ρ = [some (.ref 2), some (PL P), some (.int st), some (.int (m : Int)), some (.lst (refsF cs.length P.length)), o5, o6, o7, o8]) ?_ ?_ ?_
  · exact ⟨none, none, none, none, hs1, hx1, hl1, hc1, rfl⟩
  · rintro j x ρ cs2 hx ⟨o5, o6, o7, o8, hs2, hx2, hl2, hc2, rfl⟩
    obtain ⟨hjn, rfl⟩ := rangeI_get hx
    rw [Int.zero_add]
    simp only [ev_bin, ev_cmp, ev_list, ev_tuple, ev_callH, ev_callHK, ev_callP, ev_callPK, ev_blt, ev_sub, ev_neg, ev_not, ev_and, ev_or, ev_isi, ev_int, ev_str, ev_bl, ev_non, ev_var, ev_glob, ev_cel, ev_listJ, ev_meth, ev_sortS, ev_slice, evs_cons, evs_nil, evO_none, evO_some, evC_none, evC_some, evI_ex, evI_range, evI_enum, stillW_tup, srcOf_tup, srcOf_lst, srcOf_new, put_nm, put_tp, putS_cons, putS_nil, wipe_cons, wipe_nil, List.getElem?_cons_succ, List.getElem?_cons_zero, List.set_cons_succ, List.set_cons_zero, bind_ok, noX_ok, ofO_some, fz_int, fz_bl, fz_str, fz_ref, fz_lst, fz_new, fz_tup, fz_scr, fz_non, truth_bl, Bool.not_true, Bool.not_false, bop_add, bop_sub, cop_eq_int, cop_ne_int, cop_lt_int, cop_le_int, cop_gt_int, cop_ge_int, subW, items_tup, items_lst, items_new, items_ref, itemsL_lst, itemsL_new, itemsL_ref, isCell_ref, sat_bind, sat_ok]
    refine sat_cons (sat_if ?_)
    simp only [ev_bin, ev_cmp, ev_list, ev_tuple, ev_callH, ev_callHK, ev_callP, ev_callPK, ev_blt, ev_sub, ev_neg, ev_not, ev_and, ev_or, ev_isi, ev_int, ev_str, ev_bl, ev_non, ev_var, ev_glob, ev_cel, ev_listJ, ev_meth, ev_sortS, ev_slice, evs_cons, evs_nil, evO_none, evO_some, evC_none, evC_some, evI_ex, evI_range, evI_enum, stillW_tup, srcOf_tup, srcOf_lst, srcOf_new, put_nm, put_tp, putS_cons, putS_nil, wipe_cons, wipe_nil, List.getElem?_cons_succ, List.getElem?_cons_zero, List.set_cons_succ, List.set_cons_zero, bind_ok, noX_ok, ofO_some, fz_int, fz_bl, fz_str, fz_ref, fz_lst, fz_new, fz_tup, fz_scr, fz_non, truth_bl, Bool.not_true, Bool.not_false, bop_add, bop_sub, cop_eq_int, cop_ne_int, cop_lt_int, cop_le_int, cop_gt_int, cop_ge_int, subW, items_tup, items_lst, items_new, items_ref, itemsL_lst, itemsL_new, itemsL_ref, isCell_ref, sat_bind, sat_ok, blt_len_lst, rl]
    by_cases hp0 : P.length = 0
    · simp only [show decide ((0 : Int) < (P.length : Int)) = false by simp [hp0]]
      exact sat_nil (sat_nil ⟨_, _, _, _, hs2, hx2, hl2, hc2, rfl⟩)
    · simp only [show decide ((0 : Int) < (P.length : Int)) = true by simp; omega]
      refine sat_cons (sat_set ?_)
      simp only [ev_bin, ev_cmp, ev_list, ev_tuple, ev_callH, ev_callHK, ev_callP, ev_callPK, ev_blt, ev_sub, ev_neg, ev_not, ev_and, ev_or, ev_isi, ev_int, ev_str, ev_bl, ev_non, ev_var, ev_glob, ev_cel, ev_listJ, ev_meth, ev_sortS, ev_slice, evs_cons, evs_nil, evO_none, evO_some, evC_none, evC_some, evI_ex, evI_range, evI_enum, stillW_tup, srcOf_tup, srcOf_lst, srcOf_new, put_nm, put_tp, putS_cons, putS_nil, wipe_cons, wipe_nil, List.getElem?_cons_succ, List.getElem?_cons_zero, List.set_cons_succ, List.set_cons_zero, bind_ok, noX_ok, ofO_some, fz_int, fz_bl, fz_str, fz_ref, fz_lst, fz_new, fz_tup, fz_scr, fz_non, truth_bl, Bool.not_true, Bool.not_false, bop_add, bop_sub, cop_eq_int, cop_ne_int, cop_lt_int, cop_le_int, cop_gt_int, cop_ge_int, subW, items_tup, items_lst, items_new, items_ref, itemsL_lst, itemsL_new, itemsL_ref, isCell_ref, sat_bind, sat_ok, blt_len_lst, rl]
      refine (c_draw k hs2 (by omega) (by omega)).mono fun w cs3 z => ?_
      obtain ⟨v, rfl, v0, v1, hs3, k3⟩ := z
      obtain ⟨q, rfl⟩ : ∃ q : Nat, v = (q : Int) := ⟨v.toNat, by omega⟩
      have hq : q < P.length := by omega
      simp only [ev_bin, ev_cmp, ev_list, ev_tuple, ev_callH, ev_callHK, ev_callP, ev_callPK, ev_blt, ev_sub, ev_neg, ev_not, ev_and, ev_or, ev_isi, ev_int, ev_str, ev_bl, ev_non, ev_var, ev_glob, ev_cel, ev_listJ, ev_meth, ev_sortS, ev_slice, evs_cons, evs_nil, evO_none, evO_some, evC_none, evC_some, evI_ex, evI_range, evI_enum, stillW_tup, srcOf_tup, srcOf_lst, srcOf_new, put_nm, put_tp, putS_cons, putS_nil, wipe_cons, wipe_nil, List.getElem?_cons_succ, List.getElem?_cons_zero, List.set_cons_succ, List.set_cons_zero, bind_ok, noX_ok, ofO_some, fz_int, fz_bl, fz_str, fz_ref, fz_lst, fz_new, fz_tup, fz_scr, fz_non, truth_bl, Bool.not_true, Bool.not_false, bop_add, bop_sub, cop_eq_int, cop_ne_int, cop_lt_int, cop_le_int, cop_gt_int, cop_ge_int, subW, items_tup, items_lst, items_new, items_ref, itemsL_lst, itemsL_new, itemsL_ref, isCell_ref, sat_bind, sat_ok, refsF_at hq]
      refine sat_cons (sat_set ?_)
      simp only [ev_bin, ev_cmp, ev_list, ev_tuple, ev_callH, ev_callHK, ev_callP, ev_callPK, ev_blt, ev_sub, ev_neg, ev_not, ev_and, ev_or, ev_isi, ev_int, ev_str, ev_bl, ev_non, ev_var, ev_glob, ev_cel, ev_listJ, ev_meth, ev_sortS, ev_slice, evs_cons, evs_nil, evO_none, evO_some, evC_none, evC_some, evI_ex, evI_range, evI_enum, stillW_tup, srcOf_tup, srcOf_lst, srcOf_new, put_nm, put_tp, putS_cons, putS_nil, wipe_cons, wipe_nil, List.getElem?_cons_succ, List.getElem?_cons_zero, List.set_cons_succ, List.set_cons_zero, bind_ok, noX_ok, ofO_some, fz_int, fz_bl, fz_str, fz_ref, fz_lst, fz_new, fz_tup, fz_scr, fz_non, truth_bl, Bool.not_true, Bool.not_false, bop_add, bop_sub, cop_eq_int, cop_ne_int, cop_lt_int, cop_le_int, cop_gt_int, cop_ge_int, subW, items_tup, items_lst, items_new, items_ref, itemsL_lst, itemsL_new, itemsL_ref, isCell_ref, sat_bind, sat_ok]
      refine (c_draw k hs3 (by omega) (by omega)).mono fun w cs4 z => ?_
      obtain ⟨s, rfl, s0, s1, hs4, k4⟩ := z
      simp only [ev_bin, ev_cmp, ev_list, ev_tuple, ev_callH, ev_callHK, ev_callP, ev_callPK, ev_blt, ev_sub, ev_neg, ev_not, ev_and, ev_or, ev_isi, ev_int, ev_str, ev_bl, ev_non, ev_var, ev_glob, ev_cel, ev_listJ, ev_meth, ev_sortS, ev_slice, evs_cons, evs_nil, evO_none, evO_some, evC_none, evC_some, evI_ex, evI_range, evI_enum, stillW_tup, srcOf_tup, srcOf_lst, srcOf_new, put_nm, put_tp, putS_cons, putS_nil, wipe_cons, wipe_nil, List.getElem?_cons_succ, List.getElem?_cons_zero, List.set_cons_succ, List.set_cons_zero, bind_ok, noX_ok, ofO_some, fz_int, fz_bl, fz_str, fz_ref, fz_lst, fz_new, fz_tup, fz_scr, fz_non, truth_bl, Bool.not_true, Bool.not_false, bop_add, bop_sub, cop_eq_int, cop_ne_int, cop_lt_int, cop_le_int, cop_gt_int, cop_ge_int, subW, items_tup, items_lst, items_new, items_ref, itemsL_lst, itemsL_new, itemsL_ref, isCell_ref, sat_bind, sat_ok]
      have hx4 : Ext cs cs4 := hx2.trans (k3.ext.trans k4.ext)
      have hl4 : cs4.length = cs.length + P.length := by have := k3.1; have := k4.1; omega
      have hc4 : ∀ p, p < P.length → ∃ L, cellL cs4 (cs.length + p) = some (nums L) ∧ Set8 L := fun p hp => by
        obtain ⟨L, e, h⟩ := hc2 p hp
        exact ⟨L, by rw [k4.cell (by omega) (by omega), k3.cell (by omega) (by omega)]; exact e, h⟩
      obtain ⟨L, eL, hL⟩ := hc4 q hq
      have l8 := hL.len
      have put4 : ∀ L', Set8 L' → ∀ p, p < P.length → ∃ L, cellL (cs4.set (cs.length + q) (.lst (nums L'))) (cs.length + p) = some (nums L) ∧ Set8 L := fun L' h' p hp => by
        by_cases c : p = q
        · subst c
          exact ⟨L', cellL_same (by omega), h'⟩
        · rw [cellL_other (by omega)]
          exact hc4 p hp
      refine sat_cons (sat_if ?_)
      simp only [ev_bin, ev_cmp, ev_list, ev_tuple, ev_callH, ev_callHK, ev_callP, ev_callPK, ev_blt, ev_sub, ev_neg, ev_not, ev_and, ev_or, ev_isi, ev_int, ev_str, ev_bl, ev_non, ev_var, ev_glob, ev_cel, ev_listJ, ev_meth, ev_sortS, ev_slice, evs_cons, evs_nil, evO_none, evO_some, evC_none, evC_some, evI_ex, evI_range, evI_enum, stillW_tup, srcOf_tup, srcOf_lst, srcOf_new, put_nm, put_tp, putS_cons, putS_nil, wipe_cons, wipe_nil, List.getElem?_cons_succ, List.getElem?_cons_zero, List.set_cons_succ, List.set_cons_zero, bind_ok, noX_ok, ofO_some, fz_int, fz_bl, fz_str, fz_ref, fz_lst, fz_new, fz_tup, fz_scr, fz_non, truth_bl, Bool.not_true, Bool.not_false, bop_add, bop_sub, cop_eq_int, cop_ne_int, cop_lt_int, cop_le_int, cop_gt_int, cop_ge_int, subW, items_tup, items_lst, items_new, items_ref, itemsL_lst, itemsL_new, itemsL_ref, isCell_ref, sat_bind, sat_ok, cop_notin (w := .ref (cs.length + q)) (cs := cs4) (M := L) (by rw [items_ref]; exact eL) s]
      cases c : L.contains s with
      | false =>
          simp only [Bool.not_false]
          refine sat_cons (sat_ex ?_)
          simp only [ev_bin, ev_cmp, ev_list, ev_tuple, ev_callH, ev_callHK, ev_callP, ev_callPK, ev_blt, ev_sub, ev_neg, ev_not, ev_and, ev_or, ev_isi, ev_int, ev_str, ev_bl, ev_non, ev_var, ev_glob, ev_cel, ev_listJ, ev_meth, ev_sortS, ev_slice, evs_cons, evs_nil, evO_none, evO_some, evC_none, evC_some, evI_ex, evI_range, evI_enum, stillW_tup, srcOf_tup, srcOf_lst, srcOf_new, put_nm, put_tp, putS_cons, putS_nil, wipe_cons, wipe_nil, List.getElem?_cons_succ, List.getElem?_cons_zero, List.set_cons_succ, List.set_cons_zero, bind_ok, noX_ok, ofO_some, fz_int, fz_bl, fz_str, fz_ref, fz_lst, fz_new, fz_tup, fz_scr, fz_non, truth_bl, Bool.not_true, Bool.not_false, bop_add, bop_sub, cop_eq_int, cop_ne_int, cop_lt_int, cop_le_int, cop_gt_int, cop_ge_int, subW, items_tup, items_lst, items_new, items_ref, itemsL_lst, itemsL_new, itemsL_ref, isCell_ref, sat_bind, sat_ok, eL, Option.isSome_some, if_true, meth_append eL (w := .int s) (by rw [nums_len]; omega)]
          have hns : s ∉ L := fun h => by rw [List.contains_iff_mem.mpr h] at c; cases c
          refine sat_nil (sat_nil (sat_nil ⟨_, _, _, _, hs4.set (by omega), hx4.set (by omega), by rw [List.length_set]; exact hl4, ?_, rfl⟩))
          rw [← nums_snoc]
          refine put4 _ ⟨?_, fun x hx => ?_⟩
          · rw [List.nodup_append]
            refine ⟨hL.1, by simp, fun a ha b hb e => ?_⟩
            have : b = s := by simpa using hb
            subst this
            subst e
            exact hns ha
          · rcases List.mem_append.mp hx with h | h
            · exact hL.2 x h
            · have : x = s := by simpa using h
              omega
      | true =>
          simp only [Bool.not_true]
          refine sat_cons (sat_if ?_)
          simp only [ev_bin, ev_cmp, ev_list, ev_tuple, ev_callH, ev_callHK, ev_callP, ev_callPK, ev_blt, ev_sub, ev_neg, ev_not, ev_and, ev_or, ev_isi, ev_int, ev_str, ev_bl, ev_non, ev_var, ev_glob, ev_cel, ev_listJ, ev_meth, ev_sortS, ev_slice, evs_cons, evs_nil, evO_none, evO_some, evC_none, evC_some, evI_ex, evI_range, evI_enum, stillW_tup, srcOf_tup, srcOf_lst, srcOf_new, put_nm, put_tp, putS_cons, putS_nil, wipe_cons, wipe_nil, List.getElem?_cons_succ, List.getElem?_cons_zero, List.set_cons_succ, List.set_cons_zero, bind_ok, noX_ok, ofO_some, fz_int, fz_bl, fz_str, fz_ref, fz_lst, fz_new, fz_tup, fz_scr, fz_non, truth_bl, Bool.not_true, Bool.not_false, bop_add, bop_sub, cop_eq_int, cop_ne_int, cop_lt_int, cop_le_int, cop_gt_int, cop_ge_int, subW, items_tup, items_lst, items_new, items_ref, itemsL_lst, itemsL_new, itemsL_ref, isCell_ref, sat_bind, sat_ok, blt_len_ref eL]
          cases c2 : decide ((1 : Int) < ((nums L).length : Int)) with
          | false => exact sat_nil (sat_nil (sat_nil (sat_nil ⟨_, _, _, _, hs4, hx4, hl4, hc4, rfl⟩)))
          | true =>
              refine sat_cons (sat_ex ?_)
              simp only [ev_bin, ev_cmp, ev_list, ev_tuple, ev_callH, ev_callHK, ev_callP, ev_callPK, ev_blt, ev_sub, ev_neg, ev_not, ev_and, ev_or, ev_isi, ev_int, ev_str, ev_bl, ev_non, ev_var, ev_glob, ev_cel, ev_listJ, ev_meth, ev_sortS, ev_slice, evs_cons, evs_nil, evO_none, evO_some, evC_none, evC_some, evI_ex, evI_range, evI_enum, stillW_tup, srcOf_tup, srcOf_lst, srcOf_new, put_nm, put_tp, putS_cons, putS_nil, wipe_cons, wipe_nil, List.getElem?_cons_succ, List.getElem?_cons_zero, List.set_cons_succ, List.set_cons_zero, bind_ok, noX_ok, ofO_some, fz_int, fz_bl, fz_str, fz_ref, fz_lst, fz_new, fz_tup, fz_scr, fz_non, truth_bl, Bool.not_true, Bool.not_false, bop_add, bop_sub, cop_eq_int, cop_ne_int, cop_lt_int, cop_le_int, cop_gt_int, cop_ge_int, subW, items_tup, items_lst, items_new, items_ref, itemsL_lst, itemsL_new, itemsL_ref, isCell_ref, sat_bind, sat_ok, eL, Option.isSome_some, if_true, meth_remove eL c]
              have sub := List.eraseIdx_sublist L (L.idxOf s)
              exact sat_nil (sat_nil (sat_nil (sat_nil ⟨_, _, _, _, hs4.set (by omega), hx4.set (by omega), by rw [List.length_set]; exact hl4, put4 _ ⟨hL.1.sublist sub, fun x hx => hL.2 x (sub.subset hx)⟩, rfl⟩)))
  · rintro ρ cs2 ⟨o5, o6, o7, o8, hs2, hx2, hl2, hc2, rfl⟩
    refine sat_cons (sat_ret ?_)
    have e1 := ev_map (O := XX.O (k + 1)) (ρ := [some (.ref 2), some (PL P), some (.int st), some (.int (m : Int)), some (.lst (refsF cs.length P.length)), o5, o6, o7, o8]) (cs := cs2) (elt := .blt .tuple (.cons (.blt .sorted (.cons (.var 7) .nil)) .nil)) (t := .nm 7) (it := .ex (.var 4)) (own := [7]) (xs := refsF cs.length P.length) (fun w => match w with
      | .ref q => tI (sortI (rowAt cs2 q))
      | w => w) (by simp only [ev_bin, ev_cmp, ev_list, ev_tuple, ev_callH, ev_callHK, ev_callP, ev_callPK, ev_blt, ev_sub, ev_neg, ev_not, ev_and, ev_or, ev_isi, ev_int, ev_str, ev_bl, ev_non, ev_var, ev_glob, ev_cel, ev_listJ, ev_meth, ev_sortS, ev_slice, evs_cons, evs_nil, evO_none, evO_some, evC_none, evC_some, evI_ex, evI_range, evI_enum, stillW_tup, srcOf_tup, srcOf_lst, srcOf_new, put_nm, put_tp, putS_cons, putS_nil, wipe_cons, wipe_nil, List.getElem?_cons_succ, List.getElem?_cons_zero, List.set_cons_succ, List.set_cons_zero, bind_ok, noX_ok, ofO_some, fz_int, fz_bl, fz_str, fz_ref, fz_lst, fz_new, fz_tup, fz_scr, fz_non, truth_bl, Bool.not_true, Bool.not_false, bop_add, bop_sub, cop_eq_int, cop_ne_int, cop_lt_int, cop_le_int, cop_gt_int, cop_ge_int, subW, items_tup, items_lst, items_new, items_ref, itemsL_lst, itemsL_new, itemsL_ref, isCell_ref, sat_bind, sat_ok]) (by rw [rl]; omega) (by
      intro x hx
      simp only [refsF, List.mem_map, List.mem_range] at hx
      obtain ⟨p, hp, rfl⟩ := hx
      obtain ⟨L, e, hL⟩ := hc2 p hp
      have l8 := hL.len
      have s8 := hL.lot.len
      refine ⟨_, tI (sortI L), rfl, ?_, by rw [fz_tup]; simp only [rowAt_of e]⟩
      simp only [ev_bin, ev_cmp, ev_list, ev_tuple, ev_callH, ev_callHK, ev_callP, ev_callPK, ev_blt, ev_sub, ev_neg, ev_not, ev_and, ev_or, ev_isi, ev_int, ev_str, ev_bl, ev_non, ev_var, ev_glob, ev_cel, ev_listJ, ev_meth, ev_sortS, ev_slice, evs_cons, evs_nil, evO_none, evO_some, evC_none, evC_some, evI_ex, evI_range, evI_enum, stillW_tup, srcOf_tup, srcOf_lst, srcOf_new, put_nm, put_tp, putS_cons, putS_nil, wipe_cons, wipe_nil, List.getElem?_cons_succ, List.getElem?_cons_zero, List.set_cons_succ, List.set_cons_zero, bind_ok, noX_ok, ofO_some, fz_int, fz_bl, fz_str, fz_ref, fz_lst, fz_new, fz_tup, fz_scr, fz_non, truth_bl, Bool.not_true, Bool.not_false, bop_add, bop_sub, cop_eq_int, cop_ne_int, cop_lt_int, cop_le_int, cop_gt_int, cop_ge_int, subW, items_tup, items_lst, items_new, items_ref, itemsL_lst, itemsL_new, itemsL_ref, isCell_ref, sat_bind, sat_ok, blt_sorted (a := .ref (cs.length + p)) (cs := cs2) (X := L) (by rw [items_ref]; exact e) (by omega), blt_tuple_lst, mkTup_ok (show (nums (sortI L)).length ≤ 100000 by rw [nums_len]; omega)])
    have e2 : ((refsF cs.length P.length).map fun w => match w with
      | .ref q => tI (sortI (rowAt cs2 q))
      | w => w) = ((List.range P.length).map fun p => sortI (rowAt cs2 (cs.length + p))).map fun l => tI l := by simp [refsF, Function.comp_def]
    rw [e2] at e1
    simp only [ev_bin, ev_cmp, ev_list, ev_tuple, ev_callH, ev_callHK, ev_callP, ev_callPK, ev_blt, ev_sub, ev_neg, ev_not, ev_and, ev_or, ev_isi, ev_int, ev_str, ev_bl, ev_non, ev_var, ev_glob, ev_cel, ev_listJ, ev_meth, ev_sortS, ev_slice, evs_cons, evs_nil, evO_none, evO_some, evC_none, evC_some, evI_ex, evI_range, evI_enum, stillW_tup, srcOf_tup, srcOf_lst, srcOf_new, put_nm, put_tp, putS_cons, putS_nil, wipe_cons, wipe_nil, List.getElem?_cons_succ, List.getElem?_cons_zero, List.set_cons_succ, List.set_cons_zero, bind_ok, noX_ok, ofO_some, fz_int, fz_bl, fz_str, fz_ref, fz_lst, fz_new, fz_tup, fz_scr, fz_non, truth_bl, Bool.not_true, Bool.not_false, bop_add, bop_sub, cop_eq_int, cop_ne_int, cop_lt_int, cop_le_int, cop_gt_int, cop_ge_int, subW, items_tup, items_lst, items_new, items_ref, itemsL_lst, itemsL_new, itemsL_ref, isCell_ref, sat_bind, sat_ok, e1, blt_tuple_lst, mkTup_ok (show (((List.range P.length).map fun p => sortI (rowAt cs2 (cs.length + p))).map fun l => tI l).length ≤ 100000 by simp; omega)]
    refine ⟨_, rfl, fun l hl => ?_, by simp, hs2, hx2⟩
    rw [List.mem_map] at hl
    obtain ⟨p, hp, rfl⟩ := hl
    obtain ⟨L, e, hL⟩ := hc2 p (List.mem_range.mp hp)
    rw [rowAt_of e]
    exact hL.lot
end K85
end S_K85d

section S_K85r
set_option Elab.async false
set_option linter.all false
set_option maxRecDepth 100000
set_option maxHeartbeats 2000000
/-! K85r: a row of numbers drawn. -/
namespace K85
open Mi Ev
/-- a rising row of numbers below 8 times n -/
structure Rw (n : Nat) (L : List Int) : Prop where
  up : L.Pairwise (· < ·)
  lo : ∀ x ∈ L, 0 ≤ x ∧ x < 8 * (n : Int)
theorem Rw.len {n : Nat} {L : List Int} (h : Rw n L) (hn : n ≤ 40) : L.length ≤ 320 := by
  have := rise_len h.up h.lo
  omega
theorem Rw.nil {n : Nat} : Rw n [] := ⟨.nil, nofun⟩
theorem rw_set {n : Nat} {L : List Int} (h : ∀ x ∈ L, 0 ≤ x ∧ x < 8 * (n : Int)) : Rw n (sortI (onceI L)) :=
  ⟨So.lt_of_srt (So.sortI_srt _) ((So.sortI_perm _).nodup_iff.mpr (So.onceI_nd L)), fun x hx => h x ((So.onceI_mem L x).mp ((So.sortI_perm _).mem_iff.mp hx))⟩
theorem rw_all (n : Nat) : Rw n ((List.range (8 * n)).map fun (i : Nat) => (i : Int)) := by
  refine ⟨?_, fun x hx => ?_⟩
  · rw [List.pairwise_map]
    exact List.pairwise_lt_range.imp fun h => by omega
  · simp only [List.mem_map, List.mem_range] at hx
    obtain ⟨i, h, rfl⟩ := hx
    omega
theorem rangeI_all (n : Nat) : rangeI 0 (8 * n) = nums ((List.range (8 * n)).map fun (i : Nat) => (i : Int)) := by
  simp [rangeI, nums, Function.comp_def]
abbrev rowE (n : Nat) (kd : Int) (t : Nat) (o5 o6 o7 o8 : Option W) : ME := [some (.ref 2), some (.int (n : Int)), some (.int (8 * (n : Int))), some (.int kd), some (.ref t), o5, o6, o7, o8]
theorem c_row (k : Nat) {n : Nat} (hn : n ≤ 40) {cs : List Ob} (hs : Sr cs) : Sat (XX.C (k + 2) 13 [.ref 2, .int (n : Int)] cs) fun w cs1 => ∃ L, w = tI L ∧ Rw n L ∧ Sr cs1 ∧ Ext cs cs1 := by
  refine Ctx.sat_of at_law_row (by rfl) ?_
  show Sat (runs (XX.O (k + 1)) b_law_row [some (.ref 2), some (.int (n : Int)), none, none, none, none, none, none, none] cs) _
  have l3 := hs.len
  refine sat_cons (sat_set ?_)
  simp only [ev_bin, ev_cmp, ev_list, ev_tuple, ev_callH, ev_callHK, ev_callP, ev_callPK, ev_blt, ev_sub, ev_neg, ev_not, ev_and, ev_or, ev_isi, ev_int, ev_str, ev_bl, ev_non, ev_var, ev_glob, ev_cel, ev_listJ, ev_meth, ev_sortS, ev_slice, evs_cons, evs_nil, evO_none, evO_some, evC_none, evC_some, evI_ex, evI_range, evI_enum, stillW_tup, srcOf_tup, srcOf_lst, srcOf_new, put_nm, put_tp, putS_cons, putS_nil, wipe_cons, wipe_nil, List.getElem?_cons_succ, List.getElem?_cons_zero, List.set_cons_succ, List.set_cons_zero, bind_ok, noX_ok, ofO_some, fz_int, fz_bl, fz_str, fz_ref, fz_lst, fz_new, fz_tup, fz_scr, fz_non, truth_bl, Bool.not_true, Bool.not_false, bop_add, bop_sub, cop_eq_int, cop_ne_int, cop_lt_int, cop_le_int, cop_gt_int, cop_ge_int, subW, items_tup, items_lst, items_new, items_ref, itemsL_lst, itemsL_new, itemsL_ref, isCell_ref, sat_bind, sat_ok, bop_mul (a := 8) (b := (n : Int)) (.inl (big_ok (by decide) (by decide)))]
  refine sat_cons (sat_set ?_)
  simp only [ev_bin, ev_cmp, ev_list, ev_tuple, ev_callH, ev_callHK, ev_callP, ev_callPK, ev_blt, ev_sub, ev_neg, ev_not, ev_and, ev_or, ev_isi, ev_int, ev_str, ev_bl, ev_non, ev_var, ev_glob, ev_cel, ev_listJ, ev_meth, ev_sortS, ev_slice, evs_cons, evs_nil, evO_none, evO_some, evC_none, evC_some, evI_ex, evI_range, evI_enum, stillW_tup, srcOf_tup, srcOf_lst, srcOf_new, put_nm, put_tp, putS_cons, putS_nil, wipe_cons, wipe_nil, List.getElem?_cons_succ, List.getElem?_cons_zero, List.set_cons_succ, List.set_cons_zero, bind_ok, noX_ok, ofO_some, fz_int, fz_bl, fz_str, fz_ref, fz_lst, fz_new, fz_tup, fz_scr, fz_non, truth_bl, Bool.not_true, Bool.not_false, bop_add, bop_sub, cop_eq_int, cop_ne_int, cop_lt_int, cop_le_int, cop_gt_int, cop_ge_int, subW, items_tup, items_lst, items_new, items_ref, itemsL_lst, itemsL_new, itemsL_ref, isCell_ref, sat_bind, sat_ok]
  refine (c_draw k hs (by decide) (by decide)).mono fun w cs1 z => ?_
  obtain ⟨kd, rfl, d0, d1, hs1, k1⟩ := z
  simp only [ev_bin, ev_cmp, ev_list, ev_tuple, ev_callH, ev_callHK, ev_callP, ev_callPK, ev_blt, ev_sub, ev_neg, ev_not, ev_and, ev_or, ev_isi, ev_int, ev_str, ev_bl, ev_non, ev_var, ev_glob, ev_cel, ev_listJ, ev_meth, ev_sortS, ev_slice, evs_cons, evs_nil, evO_none, evO_some, evC_none, evC_some, evI_ex, evI_range, evI_enum, stillW_tup, srcOf_tup, srcOf_lst, srcOf_new, put_nm, put_tp, putS_cons, putS_nil, wipe_cons, wipe_nil, List.getElem?_cons_succ, List.getElem?_cons_zero, List.set_cons_succ, List.set_cons_zero, bind_ok, noX_ok, ofO_some, fz_int, fz_bl, fz_str, fz_ref, fz_lst, fz_new, fz_tup, fz_scr, fz_non, truth_bl, Bool.not_true, Bool.not_false, bop_add, bop_sub, cop_eq_int, cop_ne_int, cop_lt_int, cop_le_int, cop_gt_int, cop_ge_int, subW, items_tup, items_lst, items_new, items_ref, itemsL_lst, itemsL_new, itemsL_ref, isCell_ref, sat_bind, sat_ok]
  refine sat_cons (sat_set ?_)
  simp only [ev_bin, ev_cmp, ev_list, ev_tuple, ev_callH, ev_callHK, ev_callP, ev_callPK, ev_blt, ev_sub, ev_neg, ev_not, ev_and, ev_or, ev_isi, ev_int, ev_str, ev_bl, ev_non, ev_var, ev_glob, ev_cel, ev_listJ, ev_meth, ev_sortS, ev_slice, evs_cons, evs_nil, evO_none, evO_some, evC_none, evC_some, evI_ex, evI_range, evI_enum, stillW_tup, srcOf_tup, srcOf_lst, srcOf_new, put_nm, put_tp, putS_cons, putS_nil, wipe_cons, wipe_nil, List.getElem?_cons_succ, List.getElem?_cons_zero, List.set_cons_succ, List.set_cons_zero, bind_ok, noX_ok, ofO_some, fz_int, fz_bl, fz_str, fz_ref, fz_lst, fz_new, fz_tup, fz_scr, fz_non, truth_bl, Bool.not_true, Bool.not_false, bop_add, bop_sub, cop_eq_int, cop_ne_int, cop_lt_int, cop_le_int, cop_gt_int, cop_ge_int, subW, items_tup, items_lst, items_new, items_ref, itemsL_lst, itemsL_new, itemsL_ref, isCell_ref, sat_bind, sat_ok, mkNew_ok (show ([] : List W).length ≤ 100000 by simp)]
  have x1 : Ext cs (cs1 ++ [.lst []]) := k1.ext.trans Ext.app
  have c1 : cellL (cs1 ++ [.lst []]) cs1.length = some (nums []) := cellL_end
  have s1 : Sr (cs1 ++ [.lst []]) := hs1.app
  have g1 : cs.length ≤ cs1.length := by have := k1.1; omega
  have t1 : 3 ≤ cs1.length := by omega
  generalize hX : cs1 ++ [.lst []] = X at x1 c1 s1 ⊢
  generalize cs1.length = t at c1 g1 t1 ⊢
  clear hX
  -- a few
  refine sat_go (fun ρ cs2 => ∃ (t : Nat) (L : List Int) (o8 : Option W), 3 ≤ t ∧ cs.length ≤ t ∧ Sr cs2 ∧ Ext cs cs2 ∧ cellL cs2 t = some (nums L) ∧ Rw n L ∧ (kd ≠ 0 → L = []) ∧ ρ = rowE n kd t none none none o8) ?_ ?_
  · refine sat_if ?_
    simp only [ev_bin, ev_cmp, ev_list, ev_tuple, ev_callH, ev_callHK, ev_callP, ev_callPK, ev_blt, ev_sub, ev_neg, ev_not, ev_and, ev_or, ev_isi, ev_int, ev_str, ev_bl, ev_non, ev_var, ev_glob, ev_cel, ev_listJ, ev_meth, ev_sortS, ev_slice, evs_cons, evs_nil, evO_none, evO_some, evC_none, evC_some, evI_ex, evI_range, evI_enum, stillW_tup, srcOf_tup, srcOf_lst, srcOf_new, put_nm, put_tp, putS_cons, putS_nil, wipe_cons, wipe_nil, List.getElem?_cons_succ, List.getElem?_cons_zero, List.set_cons_succ, List.set_cons_zero, bind_ok, noX_ok, ofO_some, fz_int, fz_bl, fz_str, fz_ref, fz_lst, fz_new, fz_tup, fz_scr, fz_non, truth_bl, Bool.not_true, Bool.not_false, bop_add, bop_sub, cop_eq_int, cop_ne_int, cop_lt_int, cop_le_int, cop_gt_int, cop_ge_int, subW, items_tup, items_lst, items_new, items_ref, itemsL_lst, itemsL_new, itemsL_ref, isCell_ref, sat_bind, sat_ok]
    cases c : kd == 0 with
    | false => exact sat_nil ⟨_, rfl, t, [], none, t1, g1, s1, x1, c1, .nil, fun _ => rfl, rfl⟩
    | true =>
        refine sat_cons (sat_set ?_)
        simp only [ev_cel, ev_sortS, sat_bind]
        obtain ⟨w9, cs9, e9, v9, rfl, u0, u1, hs9, k9⟩ := (c_draw k s1 (m := 9) (by decide) (by decide)).ex
        have hmin : ∃ m : Nat, (if v9 < 8 * (n : Int) then v9 else 8 * (n : Int)) = (m : Int) ∧ m ≤ 8 ∧ (m = 0 ∨ 0 < n) := by
          refine ⟨(if v9 < 8 * (n : Int) then v9 else 8 * (n : Int)).toNat, ?_, ?_, ?_⟩
          · split <;> omega
          · split <;> omega
          · by_cases c : 0 < n
            · exact .inr c
            · left; split <;> omega
        obtain ⟨m, em, hm8, hm0⟩ := hmin
        refine sat_comp_ix (xs := rangeI 0 m) (cs := cs9) (by simp only [ev_bin, ev_cmp, ev_list, ev_tuple, ev_callH, ev_callHK, ev_callP, ev_callPK, ev_blt, ev_sub, ev_neg, ev_not, ev_and, ev_or, ev_isi, ev_int, ev_str, ev_bl, ev_non, ev_var, ev_glob, ev_cel, ev_listJ, ev_meth, ev_sortS, ev_slice, evs_cons, evs_nil, evO_none, evO_some, evC_none, evC_some, evI_ex, evI_range, evI_enum, stillW_tup, srcOf_tup, srcOf_lst, srcOf_new, put_nm, put_tp, putS_cons, putS_nil, wipe_cons, wipe_nil, List.getElem?_cons_succ, List.getElem?_cons_zero, List.set_cons_succ, List.set_cons_zero, bind_ok, noX_ok, ofO_some, fz_int, fz_bl, fz_str, fz_ref, fz_lst, fz_new, fz_tup, fz_scr, fz_non, truth_bl, Bool.not_true, Bool.not_false, bop_add, bop_sub, cop_eq_int, cop_ne_int, cop_lt_int, cop_le_int, cop_gt_int, cop_ge_int, subW, items_tup, items_lst, items_new, items_ref, itemsL_lst, itemsL_new, itemsL_ref, isCell_ref, sat_bind, sat_ok, e9, blt_min2, em, rangeW_n (show m ≤ 99999 by omega)]) (I := fun j ys cs2 => ∃ L : List Int, ys = nums L ∧ L.length = j ∧ (∀ x ∈ L, 0 ≤ x ∧ x < 8 * (n : Int)) ∧ Sr cs2 ∧ Kp X cs2) (by rw [rangeI_len]; omega) ⟨[], rfl, rfl, nofun, hs9, k9⟩ ?_ ?_
        · rintro j x ys cs2 hx ⟨L, rfl, hj, hL, hs2, k2⟩
          obtain ⟨hjm, rfl⟩ := rangeI_get hx
          have hn0 : 0 < n := hm0.resolve_left (by omega)
          have emax : ∀ cs : List Ob, blt .max2 [.int 1, .int (8 * (n : Int))] cs = .ok (.int (8 * (n : Int))) cs := fun cs => by
            show R.ok (W.int (if 8 * (n : Int) > 1 then 8 * (n : Int) else 1)) cs = _
            rw [if_pos (by omega)]
          simp only [put_nm]
          refine Sat.noX ?_
          simp only [ev_bin, ev_cmp, ev_list, ev_tuple, ev_callH, ev_callHK, ev_callP, ev_callPK, ev_blt, ev_sub, ev_neg, ev_not, ev_and, ev_or, ev_isi, ev_int, ev_str, ev_bl, ev_non, ev_var, ev_glob, ev_cel, ev_listJ, ev_meth, ev_sortS, ev_slice, evs_cons, evs_nil, evO_none, evO_some, evC_none, evC_some, evI_ex, evI_range, evI_enum, stillW_tup, srcOf_tup, srcOf_lst, srcOf_new, put_nm, put_tp, putS_cons, putS_nil, wipe_cons, wipe_nil, List.getElem?_cons_succ, List.getElem?_cons_zero, List.set_cons_succ, List.set_cons_zero, bind_ok, noX_ok, ofO_some, fz_int, fz_bl, fz_str, fz_ref, fz_lst, fz_new, fz_tup, fz_scr, fz_non, truth_bl, Bool.not_true, Bool.not_false, bop_add, bop_sub, cop_eq_int, cop_ne_int, cop_lt_int, cop_le_int, cop_gt_int, cop_ge_int, subW, items_tup, items_lst, items_new, items_ref, itemsL_lst, itemsL_new, itemsL_ref, isCell_ref, sat_bind, sat_ok, emax, if_true]
          refine (c_draw k hs2 (by omega) (by omega)).mono fun w cs3 z => ?_
          obtain ⟨v, rfl, v0, v1, hs3, k3⟩ := z
          simp only [ev_bin, ev_cmp, ev_list, ev_tuple, ev_callH, ev_callHK, ev_callP, ev_callPK, ev_blt, ev_sub, ev_neg, ev_not, ev_and, ev_or, ev_isi, ev_int, ev_str, ev_bl, ev_non, ev_var, ev_glob, ev_cel, ev_listJ, ev_meth, ev_sortS, ev_slice, evs_cons, evs_nil, evO_none, evO_some, evC_none, evC_some, evI_ex, evI_range, evI_enum, stillW_tup, srcOf_tup, srcOf_lst, srcOf_new, put_nm, put_tp, putS_cons, putS_nil, wipe_cons, wipe_nil, List.getElem?_cons_succ, List.getElem?_cons_zero, List.set_cons_succ, List.set_cons_zero, bind_ok, noX_ok, ofO_some, fz_int, fz_bl, fz_str, fz_ref, fz_lst, fz_new, fz_tup, fz_scr, fz_non, truth_bl, Bool.not_true, Bool.not_false, bop_add, bop_sub, cop_eq_int, cop_ne_int, cop_lt_int, cop_le_int, cop_gt_int, cop_ge_int, subW, items_tup, items_lst, items_new, items_ref, itemsL_lst, itemsL_new, itemsL_ref, isCell_ref, sat_bind, sat_ok]
          refine ⟨L ++ [v], by rw [nums_snoc]; rfl, by simp [hj], fun x hx => ?_, hs3, k2.trans k3⟩
          rcases List.mem_append.mp hx with h | h
          · exact hL x h
          · have : x = v := by simpa using h
            omega
        · rintro ys cs2 ⟨L, rfl, hj, hL, hs2, k2⟩ _
          rw [rangeI_len] at hj
          simp only [itemsL_new, Option.bind_some, intsW_nums, show L.length < 64 by omega, if_true, sat_ok, fz_ref, List.set_cons_succ, List.set_cons_zero]
          exact sat_nil ⟨_, rfl, cs2.length, sortI (onceI L), _, by have := hs2.len; omega, by have := k2.1; have := x1.1; omega, hs2.app, x1.trans (k2.ext.trans Ext.app), cellL_end, rw_set hL, fun h => absurd (by simpa using c) h, rfl⟩
  rintro ρ cs2 ⟨t, L, o8, ht, hg, hs2, hx2, hc2, hL, hL0, rfl⟩
  clear x1 c1 s1 g1 t1
  -- about half of them
  refine sat_go (fun ρ cs3 => ∃ (L : List Int) (o5 o6 o7 : Option W), Sr cs3 ∧ Ext cs cs3 ∧ cellL cs3 t = some (nums L) ∧ Rw n L ∧ ρ = rowE n kd t o5 o6 o7 o8) ?_ ?_
  · refine sat_if ?_
    have ec : ∀ ρ' : ME, ρ' = rowE n kd t none none none o8 → ev (XX.O (k + 1)) ρ' (.or (.cmp .eq (.var 3) (.int 1)) (.cmp .eq (.var 3) (.int 2))) cs2 = .ok (.bl (kd == 1 || kd == 2)) cs2 := by
      rintro _ rfl
      simp only [ev_bin, ev_cmp, ev_list, ev_tuple, ev_callH, ev_callHK, ev_callP, ev_callPK, ev_blt, ev_sub, ev_neg, ev_not, ev_and, ev_or, ev_isi, ev_int, ev_str, ev_bl, ev_non, ev_var, ev_glob, ev_cel, ev_listJ, ev_meth, ev_sortS, ev_slice, evs_cons, evs_nil, evO_none, evO_some, evC_none, evC_some, evI_ex, evI_range, evI_enum, stillW_tup, srcOf_tup, srcOf_lst, srcOf_new, put_nm, put_tp, putS_cons, putS_nil, wipe_cons, wipe_nil, List.getElem?_cons_succ, List.getElem?_cons_zero, List.set_cons_succ, List.set_cons_zero, bind_ok, noX_ok, ofO_some, fz_int, fz_bl, fz_str, fz_ref, fz_lst, fz_new, fz_tup, fz_scr, fz_non, truth_bl, Bool.not_true, Bool.not_false, bop_add, bop_sub, cop_eq_int, cop_ne_int, cop_lt_int, cop_le_int, cop_gt_int, cop_ge_int, subW, items_tup, items_lst, items_new, items_ref, itemsL_lst, itemsL_new, itemsL_ref, isCell_ref, sat_bind, sat_ok]
      cases kd == 1 <;> rfl
    rw [ec _ rfl, sat_ok]
    cases c : kd == 1 || kd == 2 with
    | false => exact sat_nil ⟨_, rfl, L, none, none, none, hs2, hx2, hc2, hL, rfl⟩
    | true =>
        have hk0 : kd ≠ 0 := by
          rw [Bool.or_eq_true, beq_iff_eq, beq_iff_eq] at c
          omega
        obtain rfl := hL0 hk0
        refine sat_cons ?_
        refine sat_for_ix (xs := rangeI 0 n) (by simp only [ev_bin, ev_cmp, ev_list, ev_tuple, ev_callH, ev_callHK, ev_callP, ev_callPK, ev_blt, ev_sub, ev_neg, ev_not, ev_and, ev_or, ev_isi, ev_int, ev_str, ev_bl, ev_non, ev_var, ev_glob, ev_cel, ev_listJ, ev_meth, ev_sortS, ev_slice, evs_cons, evs_nil, evO_none, evO_some, evC_none, evC_some, evI_ex, evI_range, evI_enum, stillW_tup, srcOf_tup, srcOf_lst, srcOf_new, put_nm, put_tp, putS_cons, putS_nil, wipe_cons, wipe_nil, List.getElem?_cons_succ, List.getElem?_cons_zero, List.set_cons_succ, List.set_cons_zero, bind_ok, noX_ok, ofO_some, fz_int, fz_bl, fz_str, fz_ref, fz_lst, fz_new, fz_tup, fz_scr, fz_non, truth_bl, Bool.not_true, Bool.not_false, bop_add, bop_sub, cop_eq_int, cop_ne_int, cop_lt_int, cop_le_int, cop_gt_int, cop_ge_int, subW, items_tup, items_lst, items_new, items_ref, itemsL_lst, itemsL_new, itemsL_ref, isCell_ref, sat_bind, sat_ok, rangeW_n (show n ≤ 99999 by omega)]) (I := fun j ρ cs3 => ∃ (L : List Int) (o5 o6 o7 : Option W), Sr cs3 ∧ Ext cs cs3 ∧ cellL cs3 t = some (nums L) ∧ Rw n L ∧ (∀ x ∈ L, x < 8 * (j : Int)) ∧ ρ = rowE n kd t o5 o6 o7 o8) ?_ ?_ ?_
        · exact ⟨[], none, none, none, hs2, hx2, hc2, .nil, nofun, rfl⟩
        · rintro j x ρ cs3 hx ⟨L, o5, o6, o7, hs3, hx3, hc3, hL, hLj, rfl⟩
          obtain ⟨hjn, rfl⟩ := rangeI_get hx
          rw [Int.zero_add]
          simp only [ev_bin, ev_cmp, ev_list, ev_tuple, ev_callH, ev_callHK, ev_callP, ev_callPK, ev_blt, ev_sub, ev_neg, ev_not, ev_and, ev_or, ev_isi, ev_int, ev_str, ev_bl, ev_non, ev_var, ev_glob, ev_cel, ev_listJ, ev_meth, ev_sortS, ev_slice, evs_cons, evs_nil, evO_none, evO_some, evC_none, evC_some, evI_ex, evI_range, evI_enum, stillW_tup, srcOf_tup, srcOf_lst, srcOf_new, put_nm, put_tp, putS_cons, putS_nil, wipe_cons, wipe_nil, List.getElem?_cons_succ, List.getElem?_cons_zero, List.set_cons_succ, List.set_cons_zero, bind_ok, noX_ok, ofO_some, fz_int, fz_bl, fz_str, fz_ref, fz_lst, fz_new, fz_tup, fz_scr, fz_non, truth_bl, Bool.not_true, Bool.not_false, bop_add, bop_sub, cop_eq_int, cop_ne_int, cop_lt_int, cop_le_int, cop_gt_int, cop_ge_int, subW, items_tup, items_lst, items_new, items_ref, itemsL_lst, itemsL_new, itemsL_ref, isCell_ref, sat_bind, sat_ok]
          refine sat_cons (sat_set ?_)
          simp only [ev_bin, ev_cmp, ev_list, ev_tuple, ev_callH, ev_callHK, ev_callP, ev_callPK, ev_blt, ev_sub, ev_neg, ev_not, ev_and, ev_or, ev_isi, ev_int, ev_str, ev_bl, ev_non, ev_var, ev_glob, ev_cel, ev_listJ, ev_meth, ev_sortS, ev_slice, evs_cons, evs_nil, evO_none, evO_some, evC_none, evC_some, evI_ex, evI_range, evI_enum, stillW_tup, srcOf_tup, srcOf_lst, srcOf_new, put_nm, put_tp, putS_cons, putS_nil, wipe_cons, wipe_nil, List.getElem?_cons_succ, List.getElem?_cons_zero, List.set_cons_succ, List.set_cons_zero, bind_ok, noX_ok, ofO_some, fz_int, fz_bl, fz_str, fz_ref, fz_lst, fz_new, fz_tup, fz_scr, fz_non, truth_bl, Bool.not_true, Bool.not_false, bop_add, bop_sub, cop_eq_int, cop_ne_int, cop_lt_int, cop_le_int, cop_gt_int, cop_ge_int, subW, items_tup, items_lst, items_new, items_ref, itemsL_lst, itemsL_new, itemsL_ref, isCell_ref, sat_bind, sat_ok]
          refine (c_draw k hs3 (by decide) (by decide)).mono fun w cs4 z => ?_
          obtain ⟨b, rfl, b0, b1, hs4, k4⟩ := z
          refine (c_draw k hs4 (by decide) (by decide)).mono fun w cs5 z => ?_
          obtain ⟨d, rfl, e0, e1, hs5, k5⟩ := z
          simp only [ev_bin, ev_cmp, ev_list, ev_tuple, ev_callH, ev_callHK, ev_callP, ev_callPK, ev_blt, ev_sub, ev_neg, ev_not, ev_and, ev_or, ev_isi, ev_int, ev_str, ev_bl, ev_non, ev_var, ev_glob, ev_cel, ev_listJ, ev_meth, ev_sortS, ev_slice, evs_cons, evs_nil, evO_none, evO_some, evC_none, evC_some, evI_ex, evI_range, evI_enum, stillW_tup, srcOf_tup, srcOf_lst, srcOf_new, put_nm, put_tp, putS_cons, putS_nil, wipe_cons, wipe_nil, List.getElem?_cons_succ, List.getElem?_cons_zero, List.set_cons_succ, List.set_cons_zero, bind_ok, noX_ok, ofO_some, fz_int, fz_bl, fz_str, fz_ref, fz_lst, fz_new, fz_tup, fz_scr, fz_non, truth_bl, Bool.not_true, Bool.not_false, bop_add, bop_sub, cop_eq_int, cop_ne_int, cop_lt_int, cop_le_int, cop_gt_int, cop_ge_int, subW, items_tup, items_lst, items_new, items_ref, itemsL_lst, itemsL_new, itemsL_ref, isCell_ref, sat_bind, sat_ok, bop_mul (a := b) (b := d) (.inl (big_ok (by omega) (by omega)))]
          have hc5 : cellL cs5 t = some (nums L) := by rw [k5.cell (by omega) (by omega), k4.cell (by omega) (by omega)]; exact hc3
          refine sat_cons ?_
          refine sat_for_ix (xs := rangeI 0 8) (by simp only [ev_bin, ev_cmp, ev_list, ev_tuple, ev_callH, ev_callHK, ev_callP, ev_callPK, ev_blt, ev_sub, ev_neg, ev_not, ev_and, ev_or, ev_isi, ev_int, ev_str, ev_bl, ev_non, ev_var, ev_glob, ev_cel, ev_listJ, ev_meth, ev_sortS, ev_slice, evs_cons, evs_nil, evO_none, evO_some, evC_none, evC_some, evI_ex, evI_range, evI_enum, stillW_tup, srcOf_tup, srcOf_lst, srcOf_new, put_nm, put_tp, putS_cons, putS_nil, wipe_cons, wipe_nil, List.getElem?_cons_succ, List.getElem?_cons_zero, List.set_cons_succ, List.set_cons_zero, bind_ok, noX_ok, ofO_some, fz_int, fz_bl, fz_str, fz_ref, fz_lst, fz_new, fz_tup, fz_scr, fz_non, truth_bl, Bool.not_true, Bool.not_false, bop_add, bop_sub, cop_eq_int, cop_ne_int, cop_lt_int, cop_le_int, cop_gt_int, cop_ge_int, subW, items_tup, items_lst, items_new, items_ref, itemsL_lst, itemsL_new, itemsL_ref, isCell_ref, sat_bind, sat_ok, show rangeW (.int 0) (.int 8) = some (rangeI 0 8) from rfl]) (I := fun i ρ cs6 => ∃ (L : List Int) (bt : Int) (o7 : Option W), Sr cs6 ∧ Ext cs cs6 ∧ cellL cs6 t = some (nums L) ∧ Rw n L ∧ (∀ x ∈ L, x < 8 * (j : Int) + (i : Int)) ∧ ρ = rowE n kd t (some (.int (j : Int))) (some (.int bt)) o7 o8) ?_ ?_ ?_
          · exact ⟨L, b * d, o7, hs5, hx3.trans (k4.ext.trans k5.ext), hc5, hL, fun x hx => by have := hLj x hx; omega, rfl⟩
          · rintro i x ρ cs6 hx ⟨L, bt, o7, hs6, hx6, hc6, hL, hLi, rfl⟩
            obtain ⟨hi8, rfl⟩ := rangeI_get hx
            have l3 := hL.len hn
            rw [Int.zero_add]
            simp only [ev_bin, ev_cmp, ev_list, ev_tuple, ev_callH, ev_callHK, ev_callP, ev_callPK, ev_blt, ev_sub, ev_neg, ev_not, ev_and, ev_or, ev_isi, ev_int, ev_str, ev_bl, ev_non, ev_var, ev_glob, ev_cel, ev_listJ, ev_meth, ev_sortS, ev_slice, evs_cons, evs_nil, evO_none, evO_some, evC_none, evC_some, evI_ex, evI_range, evI_enum, stillW_tup, srcOf_tup, srcOf_lst, srcOf_new, put_nm, put_tp, putS_cons, putS_nil, wipe_cons, wipe_nil, List.getElem?_cons_succ, List.getElem?_cons_zero, List.set_cons_succ, List.set_cons_zero, bind_ok, noX_ok, ofO_some, fz_int, fz_bl, fz_str, fz_ref, fz_lst, fz_new, fz_tup, fz_scr, fz_non, truth_bl, Bool.not_true, Bool.not_false, bop_add, bop_sub, cop_eq_int, cop_ne_int, cop_lt_int, cop_le_int, cop_gt_int, cop_ge_int, subW, items_tup, items_lst, items_new, items_ref, itemsL_lst, itemsL_new, itemsL_ref, isCell_ref, sat_bind, sat_ok]
            refine sat_go (fun ρ cs7 => ∃ (L : List Int), Sr cs7 ∧ Ext cs cs7 ∧ cellL cs7 t = some (nums L) ∧ Rw n L ∧ (∀ x ∈ L, x < 8 * (j : Int) + ((i + 1 : Nat) : Int)) ∧ ρ = rowE n kd t (some (.int (j : Int))) (some (.int bt)) (some (.int (i : Int))) o8) ?_ ?_
            · refine sat_if ?_
              simp only [ev_bin, ev_cmp, ev_list, ev_tuple, ev_callH, ev_callHK, ev_callP, ev_callPK, ev_blt, ev_sub, ev_neg, ev_not, ev_and, ev_or, ev_isi, ev_int, ev_str, ev_bl, ev_non, ev_var, ev_glob, ev_cel, ev_listJ, ev_meth, ev_sortS, ev_slice, evs_cons, evs_nil, evO_none, evO_some, evC_none, evC_some, evI_ex, evI_range, evI_enum, stillW_tup, srcOf_tup, srcOf_lst, srcOf_new, put_nm, put_tp, putS_cons, putS_nil, wipe_cons, wipe_nil, List.getElem?_cons_succ, List.getElem?_cons_zero, List.set_cons_succ, List.set_cons_zero, bind_ok, noX_ok, ofO_some, fz_int, fz_bl, fz_str, fz_ref, fz_lst, fz_new, fz_tup, fz_scr, fz_non, truth_bl, Bool.not_true, Bool.not_false, bop_add, bop_sub, cop_eq_int, cop_ne_int, cop_lt_int, cop_le_int, cop_gt_int, cop_ge_int, subW, items_tup, items_lst, items_new, items_ref, itemsL_lst, itemsL_new, itemsL_ref, isCell_ref, sat_bind, sat_ok, bop_mod (a := bt) (show (0 : Int) < 2 by decide)]
              cases bt % 2 == 1 with
              | false => exact sat_nil ⟨_, rfl, L, hs6, hx6, hc6, hL, fun x hx => by have := hLi x hx; omega, rfl⟩
              | true =>
                  refine sat_cons (sat_ex ?_)
                  simp only [ev_bin, ev_cmp, ev_list, ev_tuple, ev_callH, ev_callHK, ev_callP, ev_callPK, ev_blt, ev_sub, ev_neg, ev_not, ev_and, ev_or, ev_isi, ev_int, ev_str, ev_bl, ev_non, ev_var, ev_glob, ev_cel, ev_listJ, ev_meth, ev_sortS, ev_slice, evs_cons, evs_nil, evO_none, evO_some, evC_none, evC_some, evI_ex, evI_range, evI_enum, stillW_tup, srcOf_tup, srcOf_lst, srcOf_new, put_nm, put_tp, putS_cons, putS_nil, wipe_cons, wipe_nil, List.getElem?_cons_succ, List.getElem?_cons_zero, List.set_cons_succ, List.set_cons_zero, bind_ok, noX_ok, ofO_some, fz_int, fz_bl, fz_str, fz_ref, fz_lst, fz_new, fz_tup, fz_scr, fz_non, truth_bl, Bool.not_true, Bool.not_false, bop_add, bop_sub, cop_eq_int, cop_ne_int, cop_lt_int, cop_le_int, cop_gt_int, cop_ge_int, subW, items_tup, items_lst, items_new, items_ref, itemsL_lst, itemsL_new, itemsL_ref, isCell_ref, sat_bind, sat_ok, hc6, Option.isSome_some, if_true, bop_mul (a := 8) (b := (j : Int)) (.inl (big_ok (by decide) (by decide))), meth_append hc6 (w := .int (8 * (j : Int) + (i : Int))) (by rw [nums_len]; omega)]
                  refine sat_nil ⟨_, rfl, L ++ [8 * (j : Int) + (i : Int)], hs6.set ht, hx6.set hg, by rw [cellL_same (cellL_lt hc6), nums_snoc], ⟨?_, fun x hx => ?_⟩, fun x hx => ?_, rfl⟩
                  · rw [List.pairwise_append]
                    exact ⟨hL.up, by simp, fun a ha b hb => by have : b = 8 * (j : Int) + (i : Int) := by simpa using hb
                                                               rw [this]; exact hLi a ha⟩
                  · rcases List.mem_append.mp hx with h | h
                    · exact hL.lo x h
                    · have : x = 8 * (j : Int) + (i : Int) := by simpa using h
                      omega
                  · rcases List.mem_append.mp hx with h | h
                    · have := hLi x h; omega
                    · have : x = 8 * (j : Int) + (i : Int) := by simpa using h
                      omega
            · rintro ρ cs7 ⟨L, hs7, hx7, hc7, hL, hLi, rfl⟩
              refine sat_cons (sat_set ?_)
              simp only [ev_bin, ev_cmp, ev_list, ev_tuple, ev_callH, ev_callHK, ev_callP, ev_callPK, ev_blt, ev_sub, ev_neg, ev_not, ev_and, ev_or, ev_isi, ev_int, ev_str, ev_bl, ev_non, ev_var, ev_glob, ev_cel, ev_listJ, ev_meth, ev_sortS, ev_slice, evs_cons, evs_nil, evO_none, evO_some, evC_none, evC_some, evI_ex, evI_range, evI_enum, stillW_tup, srcOf_tup, srcOf_lst, srcOf_new, put_nm, put_tp, putS_cons, putS_nil, wipe_cons, wipe_nil, List.getElem?_cons_succ, List.getElem?_cons_zero, List.set_cons_succ, List.set_cons_zero, bind_ok, noX_ok, ofO_some, fz_int, fz_bl, fz_str, fz_ref, fz_lst, fz_new, fz_tup, fz_scr, fz_non, truth_bl, Bool.not_true, Bool.not_false, bop_add, bop_sub, cop_eq_int, cop_ne_int, cop_lt_int, cop_le_int, cop_gt_int, cop_ge_int, subW, items_tup, items_lst, items_new, items_ref, itemsL_lst, itemsL_new, itemsL_ref, isCell_ref, sat_bind, sat_ok, bop_fdiv (a := bt) (show (0 : Int) < 2 by decide) (by decide)]
              exact sat_nil ⟨L, bt / 2, _, hs7, hx7, hc7, hL, hLi, rfl⟩
          · rintro ρ cs6 ⟨L, bt, o7, hs6, hx6, hc6, hL, hLi, rfl⟩
            rw [rangeI_len] at hLi
            exact sat_nil ⟨L, _, _, _, hs6, hx6, hc6, hL, fun x hx => by have := hLi x hx; omega, rfl⟩
        · rintro ρ cs3 ⟨L, o5, o6, o7, hs3, hx3, hc3, hL, hLj, rfl⟩
          exact sat_nil ⟨_, rfl, L, _, _, _, hs3, hx3, hc3, hL, rfl⟩
  rintro ρ cs3 ⟨L, o5, o6, o7, hs3, hx3, hc3, hL, rfl⟩
  clear hL0 hx2 hc2 hs2
  -- all
  refine sat_go (fun ρ cs3 => ∃ (t : Nat) (L : List Int), 3 ≤ t ∧ cs.length ≤ t ∧ Sr cs3 ∧ Ext cs cs3 ∧ cellL cs3 t = some (nums L) ∧ Rw n L ∧ ρ = rowE n kd t o5 o6 o7 o8) ?_ ?_
  · refine sat_if ?_
    simp only [ev_bin, ev_cmp, ev_list, ev_tuple, ev_callH, ev_callHK, ev_callP, ev_callPK, ev_blt, ev_sub, ev_neg, ev_not, ev_and, ev_or, ev_isi, ev_int, ev_str, ev_bl, ev_non, ev_var, ev_glob, ev_cel, ev_listJ, ev_meth, ev_sortS, ev_slice, evs_cons, evs_nil, evO_none, evO_some, evC_none, evC_some, evI_ex, evI_range, evI_enum, stillW_tup, srcOf_tup, srcOf_lst, srcOf_new, put_nm, put_tp, putS_cons, putS_nil, wipe_cons, wipe_nil, List.getElem?_cons_succ, List.getElem?_cons_zero, List.set_cons_succ, List.set_cons_zero, bind_ok, noX_ok, ofO_some, fz_int, fz_bl, fz_str, fz_ref, fz_lst, fz_new, fz_tup, fz_scr, fz_non, truth_bl, Bool.not_true, Bool.not_false, bop_add, bop_sub, cop_eq_int, cop_ne_int, cop_lt_int, cop_le_int, cop_gt_int, cop_ge_int, subW, items_tup, items_lst, items_new, items_ref, itemsL_lst, itemsL_new, itemsL_ref, isCell_ref, sat_bind, sat_ok]
    cases kd == 3 with
    | false => exact sat_nil ⟨_, rfl, t, L, ht, hg, hs3, hx3, hc3, hL, rfl⟩
    | true =>
        refine sat_cons (sat_set ?_)
        have e : rangeW (.int 0) (.int (8 * (n : Int))) = some (nums ((List.range (8 * n)).map fun (i : Nat) => (i : Int))) := by
          rw [← rangeI_all, show 8 * (n : Int) = ((8 * n : Nat) : Int) by omega]
          exact rangeW_n (by omega)
        simp only [ev_bin, ev_cmp, ev_list, ev_tuple, ev_callH, ev_callHK, ev_callP, ev_callPK, ev_blt, ev_sub, ev_neg, ev_not, ev_and, ev_or, ev_isi, ev_int, ev_str, ev_bl, ev_non, ev_var, ev_glob, ev_cel, ev_listJ, ev_meth, ev_sortS, ev_slice, evs_cons, evs_nil, evO_none, evO_some, evC_none, evC_some, evI_ex, evI_range, evI_enum, stillW_tup, srcOf_tup, srcOf_lst, srcOf_new, put_nm, put_tp, putS_cons, putS_nil, wipe_cons, wipe_nil, List.getElem?_cons_succ, List.getElem?_cons_zero, List.set_cons_succ, List.set_cons_zero, bind_ok, noX_ok, ofO_some, fz_int, fz_bl, fz_str, fz_ref, fz_lst, fz_new, fz_tup, fz_scr, fz_non, truth_bl, Bool.not_true, Bool.not_false, bop_add, bop_sub, cop_eq_int, cop_ne_int, cop_lt_int, cop_le_int, cop_gt_int, cop_ge_int, subW, items_tup, items_lst, items_new, items_ref, itemsL_lst, itemsL_new, itemsL_ref, isCell_ref, sat_bind, sat_ok, e]
        exact sat_nil ⟨_, rfl, cs3.length, _, by have := hs3.len; omega, hx3.1, hs3.app, hx3.trans Ext.app, cellL_end, rw_all n, rfl⟩
  rintro ρ cs4 ⟨t, L, ht, hg, hs4, hx4, hc4, hL, rfl⟩
  clear hx3 hc3 hs3
  -- the greatest
  refine sat_go (fun ρ cs3 => ∃ (L : List Int), Sr cs3 ∧ Ext cs cs3 ∧ cellL cs3 t = some (nums L) ∧ Rw n L ∧ ρ = rowE n kd t o5 o6 o7 o8) ?_ ?_
  · refine sat_if ?_
    simp only [ev_bin, ev_cmp, ev_list, ev_tuple, ev_callH, ev_callHK, ev_callP, ev_callPK, ev_blt, ev_sub, ev_neg, ev_not, ev_and, ev_or, ev_isi, ev_int, ev_str, ev_bl, ev_non, ev_var, ev_glob, ev_cel, ev_listJ, ev_meth, ev_sortS, ev_slice, evs_cons, evs_nil, evO_none, evO_some, evC_none, evC_some, evI_ex, evI_range, evI_enum, stillW_tup, srcOf_tup, srcOf_lst, srcOf_new, put_nm, put_tp, putS_cons, putS_nil, wipe_cons, wipe_nil, List.getElem?_cons_succ, List.getElem?_cons_zero, List.set_cons_succ, List.set_cons_zero, bind_ok, noX_ok, ofO_some, fz_int, fz_bl, fz_str, fz_ref, fz_lst, fz_new, fz_tup, fz_scr, fz_non, truth_bl, Bool.not_true, Bool.not_false, bop_add, bop_sub, cop_eq_int, cop_ne_int, cop_lt_int, cop_le_int, cop_gt_int, cop_ge_int, subW, items_tup, items_lst, items_new, items_ref, itemsL_lst, itemsL_new, itemsL_ref, isCell_ref, sat_bind, sat_ok]
    cases c : decide ((0 : Int) < 8 * (n : Int)) with
    | false =>
        simp only [ev_bin, ev_cmp, ev_list, ev_tuple, ev_callH, ev_callHK, ev_callP, ev_callPK, ev_blt, ev_sub, ev_neg, ev_not, ev_and, ev_or, ev_isi, ev_int, ev_str, ev_bl, ev_non, ev_var, ev_glob, ev_cel, ev_listJ, ev_meth, ev_sortS, ev_slice, evs_cons, evs_nil, evO_none, evO_some, evC_none, evC_some, evI_ex, evI_range, evI_enum, stillW_tup, srcOf_tup, srcOf_lst, srcOf_new, put_nm, put_tp, putS_cons, putS_nil, wipe_cons, wipe_nil, List.getElem?_cons_succ, List.getElem?_cons_zero, List.set_cons_succ, List.set_cons_zero, bind_ok, noX_ok, ofO_some, fz_int, fz_bl, fz_str, fz_ref, fz_lst, fz_new, fz_tup, fz_scr, fz_non, truth_bl, Bool.not_true, Bool.not_false, bop_add, bop_sub, cop_eq_int, cop_ne_int, cop_lt_int, cop_le_int, cop_gt_int, cop_ge_int, subW, items_tup, items_lst, items_new, items_ref, itemsL_lst, itemsL_new, itemsL_ref, isCell_ref, sat_bind, sat_ok]
        exact sat_nil ⟨_, rfl, L, hs4, hx4, hc4, hL, rfl⟩
    | true =>
        have hn0 := of_decide_eq_true c
        simp only [ev_bin, ev_cmp, ev_list, ev_tuple, ev_callH, ev_callHK, ev_callP, ev_callPK, ev_blt, ev_sub, ev_neg, ev_not, ev_and, ev_or, ev_isi, ev_int, ev_str, ev_bl, ev_non, ev_var, ev_glob, ev_cel, ev_listJ, ev_meth, ev_sortS, ev_slice, evs_cons, evs_nil, evO_none, evO_some, evC_none, evC_some, evI_ex, evI_range, evI_enum, stillW_tup, srcOf_tup, srcOf_lst, srcOf_new, put_nm, put_tp, putS_cons, putS_nil, wipe_cons, wipe_nil, List.getElem?_cons_succ, List.getElem?_cons_zero, List.set_cons_succ, List.set_cons_zero, bind_ok, noX_ok, ofO_some, fz_int, fz_bl, fz_str, fz_ref, fz_lst, fz_new, fz_tup, fz_scr, fz_non, truth_bl, Bool.not_true, Bool.not_false, bop_add, bop_sub, cop_eq_int, cop_ne_int, cop_lt_int, cop_le_int, cop_gt_int, cop_ge_int, subW, items_tup, items_lst, items_new, items_ref, itemsL_lst, itemsL_new, itemsL_ref, isCell_ref, sat_bind, sat_ok]
        refine (c_draw k hs4 (by decide) (by decide)).mono fun w cs5 z => ?_
        obtain ⟨d, rfl, e0, e1, hs5, k5⟩ := z
        have hc5 : cellL cs5 t = some (nums L) := by rw [k5.cell (by omega) (by omega)]; exact hc4
        simp only [ev_bin, ev_cmp, ev_list, ev_tuple, ev_callH, ev_callHK, ev_callP, ev_callPK, ev_blt, ev_sub, ev_neg, ev_not, ev_and, ev_or, ev_isi, ev_int, ev_str, ev_bl, ev_non, ev_var, ev_glob, ev_cel, ev_listJ, ev_meth, ev_sortS, ev_slice, evs_cons, evs_nil, evO_none, evO_some, evC_none, evC_some, evI_ex, evI_range, evI_enum, stillW_tup, srcOf_tup, srcOf_lst, srcOf_new, put_nm, put_tp, putS_cons, putS_nil, wipe_cons, wipe_nil, List.getElem?_cons_succ, List.getElem?_cons_zero, List.set_cons_succ, List.set_cons_zero, bind_ok, noX_ok, ofO_some, fz_int, fz_bl, fz_str, fz_ref, fz_lst, fz_new, fz_tup, fz_scr, fz_non, truth_bl, Bool.not_true, Bool.not_false, bop_add, bop_sub, cop_eq_int, cop_ne_int, cop_lt_int, cop_le_int, cop_gt_int, cop_ge_int, subW, items_tup, items_lst, items_new, items_ref, itemsL_lst, itemsL_new, itemsL_ref, isCell_ref, sat_bind, sat_ok]
        cases d == 1 with
        | false =>
            simp only [ev_bin, ev_cmp, ev_list, ev_tuple, ev_callH, ev_callHK, ev_callP, ev_callPK, ev_blt, ev_sub, ev_neg, ev_not, ev_and, ev_or, ev_isi, ev_int, ev_str, ev_bl, ev_non, ev_var, ev_glob, ev_cel, ev_listJ, ev_meth, ev_sortS, ev_slice, evs_cons, evs_nil, evO_none, evO_some, evC_none, evC_some, evI_ex, evI_range, evI_enum, stillW_tup, srcOf_tup, srcOf_lst, srcOf_new, put_nm, put_tp, putS_cons, putS_nil, wipe_cons, wipe_nil, List.getElem?_cons_succ, List.getElem?_cons_zero, List.set_cons_succ, List.set_cons_zero, bind_ok, noX_ok, ofO_some, fz_int, fz_bl, fz_str, fz_ref, fz_lst, fz_new, fz_tup, fz_scr, fz_non, truth_bl, Bool.not_true, Bool.not_false, bop_add, bop_sub, cop_eq_int, cop_ne_int, cop_lt_int, cop_le_int, cop_gt_int, cop_ge_int, subW, items_tup, items_lst, items_new, items_ref, itemsL_lst, itemsL_new, itemsL_ref, isCell_ref, sat_bind, sat_ok]
            exact sat_nil ⟨_, rfl, L, hs5, hx4.trans k5.ext, hc5, hL, rfl⟩
        | true =>
            simp only [ev_bin, ev_cmp, ev_list, ev_tuple, ev_callH, ev_callHK, ev_callP, ev_callPK, ev_blt, ev_sub, ev_neg, ev_not, ev_and, ev_or, ev_isi, ev_int, ev_str, ev_bl, ev_non, ev_var, ev_glob, ev_cel, ev_listJ, ev_meth, ev_sortS, ev_slice, evs_cons, evs_nil, evO_none, evO_some, evC_none, evC_some, evI_ex, evI_range, evI_enum, stillW_tup, srcOf_tup, srcOf_lst, srcOf_new, put_nm, put_tp, putS_cons, putS_nil, wipe_cons, wipe_nil, List.getElem?_cons_succ, List.getElem?_cons_zero, List.set_cons_succ, List.set_cons_zero, bind_ok, noX_ok, ofO_some, fz_int, fz_bl, fz_str, fz_ref, fz_lst, fz_new, fz_tup, fz_scr, fz_non, truth_bl, Bool.not_true, Bool.not_false, bop_add, bop_sub, cop_eq_int, cop_ne_int, cop_lt_int, cop_le_int, cop_gt_int, cop_ge_int, subW, items_tup, items_lst, items_new, items_ref, itemsL_lst, itemsL_new, itemsL_ref, isCell_ref, sat_bind, sat_ok, cop_notin (w := .ref t) (cs := cs5) (M := L) (by rw [items_ref]; exact hc5) (8 * (n : Int) - 1)]
            cases c2 : L.contains (8 * (n : Int) - 1) with
            | true => exact sat_nil ⟨_, rfl, L, hs5, hx4.trans k5.ext, hc5, hL, rfl⟩
            | false =>
                have l3 := hL.len hn
                have hnm : 8 * (n : Int) - 1 ∉ L := fun h => by rw [List.contains_iff_mem.mpr h] at c2; cases c2
                refine sat_cons (sat_ex ?_)
                simp only [ev_bin, ev_cmp, ev_list, ev_tuple, ev_callH, ev_callHK, ev_callP, ev_callPK, ev_blt, ev_sub, ev_neg, ev_not, ev_and, ev_or, ev_isi, ev_int, ev_str, ev_bl, ev_non, ev_var, ev_glob, ev_cel, ev_listJ, ev_meth, ev_sortS, ev_slice, evs_cons, evs_nil, evO_none, evO_some, evC_none, evC_some, evI_ex, evI_range, evI_enum, stillW_tup, srcOf_tup, srcOf_lst, srcOf_new, put_nm, put_tp, putS_cons, putS_nil, wipe_cons, wipe_nil, List.getElem?_cons_succ, List.getElem?_cons_zero, List.set_cons_succ, List.set_cons_zero, bind_ok, noX_ok, ofO_some, fz_int, fz_bl, fz_str, fz_ref, fz_lst, fz_new, fz_tup, fz_scr, fz_non, truth_bl, Bool.not_true, Bool.not_false, bop_add, bop_sub, cop_eq_int, cop_ne_int, cop_lt_int, cop_le_int, cop_gt_int, cop_ge_int, subW, items_tup, items_lst, items_new, items_ref, itemsL_lst, itemsL_new, itemsL_ref, isCell_ref, sat_bind, sat_ok, hc5, Option.isSome_some, if_true, meth_append hc5 (w := .int (8 * (n : Int) - 1)) (by rw [nums_len]; omega)]
                refine sat_nil ⟨_, rfl, L ++ [8 * (n : Int) - 1], hs5.set ht, (hx4.trans k5.ext).set hg, by rw [cellL_same (cellL_lt hc5), nums_snoc], ⟨?_, fun x hx => ?_⟩, rfl⟩
                · rw [List.pairwise_append]
                  refine ⟨hL.up, by simp, fun a ha b hb => ?_⟩
                  have e : b = 8 * (n : Int) - 1 := by simpa using hb
                  have h1 := hL.lo a ha
                  have h2 : a ≠ 8 * (n : Int) - 1 := fun e => hnm (e ▸ ha)
                  omega
                · rcases List.mem_append.mp hx with h | h
                  · exact hL.lo x h
                  · have : x = 8 * (n : Int) - 1 := by simpa using h
                    omega
  rintro ρ cs5 ⟨L, hs5, hx5, hc5, hL, rfl⟩
  have l3 := hL.len hn
  refine sat_cons (sat_ret ?_)
  simp only [ev_bin, ev_cmp, ev_list, ev_tuple, ev_callH, ev_callHK, ev_callP, ev_callPK, ev_blt, ev_sub, ev_neg, ev_not, ev_and, ev_or, ev_isi, ev_int, ev_str, ev_bl, ev_non, ev_var, ev_glob, ev_cel, ev_listJ, ev_meth, ev_sortS, ev_slice, evs_cons, evs_nil, evO_none, evO_some, evC_none, evC_some, evI_ex, evI_range, evI_enum, stillW_tup, srcOf_tup, srcOf_lst, srcOf_new, put_nm, put_tp, putS_cons, putS_nil, wipe_cons, wipe_nil, List.getElem?_cons_succ, List.getElem?_cons_zero, List.set_cons_succ, List.set_cons_zero, bind_ok, noX_ok, ofO_some, fz_int, fz_bl, fz_str, fz_ref, fz_lst, fz_new, fz_tup, fz_scr, fz_non, truth_bl, Bool.not_true, Bool.not_false, bop_add, bop_sub, cop_eq_int, cop_ne_int, cop_lt_int, cop_le_int, cop_gt_int, cop_ge_int, subW, items_tup, items_lst, items_new, items_ref, itemsL_lst, itemsL_new, itemsL_ref, isCell_ref, sat_bind, sat_ok, blt_tuple_ref hc5, mkTup_ok (show (nums L).length ≤ 100000 by rw [nums_len]; omega)]
  exact ⟨L, rfl, hL, hs5, hx5⟩
end K85
end S_K85r

section S_K85v
set_option Elab.async false
set_option linter.all false
set_option maxRecDepth 100000
set_option maxHeartbeats 4000000
/-! K85v: wrong rows. -/
namespace K85
open Mi Ev
theorem ris_true {m : Int} : ∀ {ws : List W} {l : Int}, ris l m ws = true → ∃ L, ws = nums L ∧ L.Pairwise (· < ·) ∧ ∀ x ∈ L, l ≤ x ∧ x ≤ m
  | [], _, _ => ⟨[], rfl, .nil, nofun⟩
  | w :: ws, l, h => by
      rw [ris, Bool.and_eq_true] at h
      cases w with
      | int i =>
          obtain ⟨L, e, hp, hL⟩ := ris_true h.2
          have h1 := h.1
          simp only [ift, Bool.and_eq_true, decide_eq_true_eq] at h1
          simp only [nxI] at hL
          refine ⟨i :: L, by rw [e, nums_cons], List.pairwise_cons.mpr ⟨fun x hx => by have := hL x hx; omega, hp⟩, fun x hx => ?_⟩
          rcases List.mem_cons.mp hx with rfl | hx
          · exact h1
          · have := hL x hx
            omega
      | _ => exact nomatch h.1
/-- a wrong row -/
structure Bd (n : Nat) (w : W) : Prop where
  row : Row w
  no : isR w (8 * (n : Int) - 1) = false
  gd : gd 4 w = true
theorem bd_atom {n : Nat} {w : W} (hg : gd 4 w = true) (h : ∀ xs, w ≠ .tup xs) : Bd n w := by
  refine ⟨⟨gd_mono (by omega) hg, fun xs e => absurd e (h xs)⟩, ?_, hg⟩
  cases w with
  | tup xs => exact absurd rfl (h xs)
  | _ => rfl
theorem bd_tup {n : Nat} {ws : List W} (hl : ws.length ≤ 99999) (h : ∀ w ∈ ws, At w ∧ gd 3 w = true) (hn : ∀ L, ws = nums L → L.Pairwise (· < ·) → (∀ x ∈ L, 0 ≤ x ∧ x < 8 * (n : Int)) → False) : Bd n (.tup ws) := by
  have g : gd 4 (.tup ws) = true := gd_tup hl fun x hx => (h x hx).2
  refine ⟨⟨gd_mono (by omega) g, fun xs e x hx => ?_⟩, ?_, g⟩
  · cases e
    exact (h x hx).1
  · cases c : isR (.tup ws) (8 * (n : Int) - 1) with
    | false => rfl
    | true =>
        obtain ⟨L, e, hp, hL⟩ := ris_true (show ris 0 (8 * (n : Int) - 1) ws = true from c)
        exact (hn L e hp fun x hx => by have := hL x hx; omega).elim
theorem at_nums {L : List Int} : ∀ w ∈ nums L, At w ∧ gd 3 w = true := by
  intro w hw
  simp only [nums, List.mem_map] at hw
  obtain ⟨i, _, rfl⟩ := hw
  exact ⟨trivial, rfl⟩
/-- a row with one member that is none -/
theorem bd_mem {n : Nat} {A B : List Int} {w : W} (hA : A.length ≤ 400) (hB : B.length ≤ 400) (ha : At w) (hg : gd 3 w = true) (h : ∀ x, w = .int x → ¬(0 ≤ x ∧ x < 8 * (n : Int))) : Bd n (.tup (nums A ++ [w] ++ nums B)) := by
  refine bd_tup (by simp; omega) (fun x hx => ?_) fun L e hp hL => ?_
  · rw [List.mem_append, List.mem_append] at hx
    rcases hx with (hx | hx) | hx
    · exact at_nums x hx
    · have : x = w := by simpa using hx
      rw [this]
      exact ⟨ha, hg⟩
    · exact at_nums x hx
  · have : w ∈ nums L := by rw [← e]; simp
    simp only [nums, List.mem_map] at this
    obtain ⟨x, hx, rfl⟩ := this
    exact h x rfl (hL x hx)
theorem bd_pair {n : Nat} {A B : List Int} {x y : Int} (hA : A.length ≤ 400) (hB : B.length ≤ 400) (h : y ≤ x) : Bd n (.tup (nums A ++ [.int x, .int y] ++ nums B)) := by
  have e0 : nums A ++ [W.int x, W.int y] ++ nums B = nums (A ++ [x, y] ++ B) := by simp [nums]
  rw [e0]
  refine bd_tup (by simp; omega) at_nums fun L e hp hL => ?_
  have := nums_inj.mp e
  subst this
  rw [List.append_assoc, List.pairwise_append] at hp
  have := hp.2.1
  simp only [List.cons_append, List.nil_append, List.pairwise_cons, List.mem_cons] at this
  have := this.1 y (.inl rfl)
  omega
theorem slice_to {L : List Int} {j : Nat} {cs : List Ob} (hl : L.length ≤ 400) : sliceW (.tup (nums L)) none (some (j : Int)) cs = .ok (.tup (nums (L.take j))) cs := by
  show mkTup (cut (nums L) none (some (j : Int))) cs = _
  have e : cut (nums L) none (some (j : Int)) = nums (L.take j) := by
    have : bound (nums L).length (nums L).length (some (j : Int)) = min j (nums L).length := by
      rw [bound, if_neg (by omega), Int.toNat_natCast]
    unfold cut
    rw [this, bound, List.drop_zero, Nat.sub_zero, nums_len, nums, nums, ← List.map_take]
    congr 1
    rw [List.take_eq_take_iff]
    omega
  rw [e]
  exact mkTup_ok (by rw [nums_len, List.length_take]; omega)
theorem slice_from {L : List Int} {j : Nat} {v : Int} {cs : List Ob} (hl : L.length ≤ 400) (hv : v = (j : Int)) : sliceW (.tup (nums L)) (some v) none cs = .ok (.tup (nums (L.drop j))) cs := by
  subst hv
  show mkTup (cut (nums L) (some (j : Int)) none) cs = _
  have e : cut (nums L) (some (j : Int)) none = nums (L.drop j) := by
    have : bound (nums L).length 0 (some (j : Int)) = min j (nums L).length := by
      rw [bound, if_neg (by omega), Int.toNat_natCast]
    unfold cut
    rw [this, bound, nums_len, List.take_of_length_le (by simp), nums, nums, ← List.map_drop]
    congr 1
    by_cases c : j ≤ L.length
    · rw [Nat.min_eq_left c]
    · rw [Nat.min_eq_right (by omega), List.drop_length, List.drop_of_length_le (by omega)]
  rw [e]
  exact mkTup_ok (by rw [nums_len, List.length_drop]; omega)
theorem bop_addT {xs ys : List W} {cs : List Ob} (h : xs.length + ys.length ≤ 100000) : bop .add (.tup xs) (.tup ys) cs = .ok (.tup (xs ++ ys)) cs := by
  show mkTup (xs ++ ys) cs = _
  exact mkTup_ok (by rw [List.length_append]; exact h)
theorem at_nat1 {L : List Int} {j : Nat} {v : Int} (hv : v = (j : Int)) (h : j < L.length) : at? (nums L) v = some (.int L[j]) := by
  subst hv
  rw [at_nat h]
  simp [List.getD_eq_getElem?_getD, h]
/-- the rows so far -/
structure Wr (n : Nat) (cs : List Ob) (r c : Nat) (cs1 : List Ob) : Prop where
  ex : ∃ bads, cellL cs1 r = some bads ∧ bads ≠ [] ∧ bads.length ≤ c ∧ ∀ b ∈ bads, Bd n b
  sr : Sr cs1
  ext : Ext cs cs1
  r3 : 3 ≤ r
  rg : cs.length ≤ r
theorem Wr.mono {n r c c' : Nat} {cs cs1 : List Ob} (h : Wr n cs r c cs1) (hc : c ≤ c') : Wr n cs r c' cs1 := by
  obtain ⟨bads, e, h0, h1, h2⟩ := h.ex
  exact ⟨⟨bads, e, h0, by omega, h2⟩, h.sr, h.ext, h.r3, h.rg⟩
theorem Wr.cell {n r c : Nat} {cs cs1 : List Ob} (h : Wr n cs r c cs1) : (cellL cs1 r).isSome = true := by
  obtain ⟨bads, e, _⟩ := h.ex
  rw [e]; rfl
theorem Wr.draw {n r c : Nat} {cs cs1 cs2 : List Ob} (h : Wr n cs r c cs1) (hs : Sr cs2) (hk : Kp cs1 cs2) : Wr n cs r c cs2 := by
  obtain ⟨bads, e, h0, h1, h2⟩ := h.ex
  have := h.r3
  exact ⟨⟨bads, by rw [hk.cell (by omega) (by omega)]; exact e, h0, h1, h2⟩, hs, h.ext.trans hk.ext, h.r3, h.rg⟩
theorem Wr.add {n r c : Nat} {cs cs1 : List Ob} {b : W} (h : Wr n cs r c cs1) (hb : Bd n b) (hc : c ≤ 99) : ∃ cs2, meth .append (.ref r) [b] cs1 = .ok .non cs2 ∧ Wr n cs r (c + 1) cs2 := by
  obtain ⟨bads, e, h0, h1, h2⟩ := h.ex
  refine ⟨_, meth_append e (by omega), ⟨bads ++ [b], cellL_same (cellL_lt e), by simp, by simp; omega, fun x hx => ?_⟩, h.sr.set h.r3, h.ext.set h.rg, h.r3, h.rg⟩
  rcases List.mem_append.mp hx with hx | hx
  · exact h2 x hx
  · have : x = b := by simpa using hx
    rw [this]
    exact hb
theorem at_seven {n : Nat} {L : List Int} {v : Int} (hl : L.length ≤ 320) (h0 : 0 ≤ v) (h1 : v < 7) : ∃ x, at? [.non, .int 0, .str "", .str "0", .bl true, .tup [tI L], .int (8 * (n : Int) - 1)] v = some x ∧ Bd n x := by
  have : v = 0 ∨ v = 1 ∨ v = 2 ∨ v = 3 ∨ v = 4 ∨ v = 5 ∨ v = 6 := by omega
  rcases this with rfl | rfl | rfl | rfl | rfl | rfl | rfl
  · exact ⟨.non, rfl, bd_atom rfl nofun⟩
  · exact ⟨.int 0, rfl, bd_atom rfl nofun⟩
  · exact ⟨.str "", rfl, bd_atom (gd_str 3 "") nofun⟩
  · exact ⟨.str "0", rfl, bd_atom (gd_str 3 "0") nofun⟩
  · exact ⟨.bl true, rfl, bd_atom rfl nofun⟩
  · refine ⟨.tup [tI L], rfl, ?_⟩
    exact bd_mem (A := []) (B := []) (by simp) (by simp) trivial (gd_tI (k := 1) (by omega)) nofun
  · exact ⟨.int (8 * (n : Int) - 1), rfl, bd_atom rfl nofun⟩
theorem at_five {v : Int} (h0 : 0 ≤ v) (h1 : v < 5) : ∃ x, at? [.str "1", .non, .tup [.int 0], .str "", .int (-2)] v = some x ∧ At x ∧ gd 3 x = true ∧ fz x = x ∧ ∀ (n : Nat) (y : Int), x = .int y → ¬(0 ≤ y ∧ y < 8 * (n : Int)) := by
  have : v = 0 ∨ v = 1 ∨ v = 2 ∨ v = 3 ∨ v = 4 := by omega
  rcases this with rfl | rfl | rfl | rfl | rfl
  · exact ⟨.str "1", rfl, trivial, gd_str 2 "1", rfl, fun _ _ => nofun⟩
  · exact ⟨.non, rfl, trivial, rfl, rfl, fun _ _ => nofun⟩
  · exact ⟨.tup [.int 0], rfl, trivial, rfl, rfl, fun _ _ => nofun⟩
  · exact ⟨.str "", rfl, trivial, gd_str 2 "", rfl, fun _ _ => nofun⟩
  · exact ⟨.int (-2), rfl, trivial, rfl, rfl, fun n y e => by cases e; omega⟩
theorem at_three {a b c v : Int} (h0 : 0 ≤ v) (h1 : v < 3) : ∃ x, at? [.int a, .int b, .int c] v = some (.int x) ∧ (x = a ∨ x = b ∨ x = c) := by
  have : v = 0 ∨ v = 1 ∨ v = 2 := by omega
  rcases this with rfl | rfl | rfl
  · exact ⟨a, rfl, .inl rfl⟩
  · exact ⟨b, rfl, .inr (.inl rfl)⟩
  · exact ⟨c, rfl, .inr (.inr rfl)⟩
theorem strI_ok {i : Int} {cs : List Ob} (h : 0 ≤ i) (h2 : i < 1000) : blt .strI [.int i] cs = .ok (.str (PySem.Str.ofString (toString i))) cs := by
  have : i.natAbs.log2 ≤ i.natAbs := Nat.log2_le_self _
  show (if i.natAbs.log2 < 1920 then R.ok (W.str (PySem.Str.ofString (toString i))) cs else .bad) = _
  rw [if_pos (by omega)]
abbrev wrE (n : Nat) (L : List Int) (a : Nat) (r : Nat) (o5 : Option W) : ME := [some (.ref 2), some (.int (n : Int)), some (tI L), some (.int (a : Int)), some (.ref r), o5]
theorem c_wrong_rows (k : Nat) {n : Nat} {L : List Int} (hn : n ≤ 40) (hL : Rw n L) {cs : List Ob} (hs : Sr cs) : Sat (XX.C (k + 2) 18 [.ref 2, .int (n : Int), tI L] cs) fun w cs1 => ∃ r, w = .ref r ∧ Wr n cs r 12 cs1 := by
  refine Ctx.sat_of at_law_wrong_rows (by rfl) ?_
  show Sat (runs (XX.O (k + 1)) b_law_wrong_rows [some (.ref 2), some (.int (n : Int)), some (tI L), none, none, none] cs) _
  have l3 := hs.len
  have ll := hL.len hn
  refine sat_cons (sat_set ?_)
  simp only [ev_bin, ev_cmp, ev_list, ev_tuple, ev_callH, ev_callHK, ev_callP, ev_callPK, ev_blt, ev_sub, ev_neg, ev_not, ev_and, ev_or, ev_isi, ev_int, ev_str, ev_bl, ev_non, ev_var, ev_glob, ev_cel, ev_listJ, ev_meth, ev_sortS, ev_slice, evs_cons, evs_nil, evO_none, evO_some, evC_none, evC_some, evI_ex, evI_range, evI_enum, stillW_tup, srcOf_tup, srcOf_lst, srcOf_new, put_nm, put_tp, putS_cons, putS_nil, wipe_cons, wipe_nil, List.getElem?_cons_succ, List.getElem?_cons_zero, List.set_cons_succ, List.set_cons_zero, bind_ok, noX_ok, ofO_some, fz_int, fz_bl, fz_str, fz_ref, fz_lst, fz_new, fz_tup, fz_scr, fz_non, truth_bl, Bool.not_true, Bool.not_false, bop_add, bop_sub, cop_eq_int, cop_ne_int, cop_lt_int, cop_le_int, cop_gt_int, cop_ge_int, subW, items_tup, items_lst, items_new, items_ref, itemsL_lst, itemsL_new, itemsL_ref, isCell_ref, sat_bind, sat_ok, blt_len_tup, nums_len]
  refine (c_draw k hs (by omega) (by omega)).mono fun w cs1 z => ?_
  obtain ⟨a, rfl, a0, a1, hs1, k1⟩ := z
  obtain ⟨a, rfl⟩ : ∃ q : Nat, a = (q : Int) := ⟨a.toNat, by omega⟩
  simp only [ev_bin, ev_cmp, ev_list, ev_tuple, ev_callH, ev_callHK, ev_callP, ev_callPK, ev_blt, ev_sub, ev_neg, ev_not, ev_and, ev_or, ev_isi, ev_int, ev_str, ev_bl, ev_non, ev_var, ev_glob, ev_cel, ev_listJ, ev_meth, ev_sortS, ev_slice, evs_cons, evs_nil, evO_none, evO_some, evC_none, evC_some, evI_ex, evI_range, evI_enum, stillW_tup, srcOf_tup, srcOf_lst, srcOf_new, put_nm, put_tp, putS_cons, putS_nil, wipe_cons, wipe_nil, List.getElem?_cons_succ, List.getElem?_cons_zero, List.set_cons_succ, List.set_cons_zero, bind_ok, noX_ok, ofO_some, fz_int, fz_bl, fz_str, fz_ref, fz_lst, fz_new, fz_tup, fz_scr, fz_non, truth_bl, Bool.not_true, Bool.not_false, bop_add, bop_sub, cop_eq_int, cop_ne_int, cop_lt_int, cop_le_int, cop_gt_int, cop_ge_int, subW, items_tup, items_lst, items_new, items_ref, itemsL_lst, itemsL_new, itemsL_ref, isCell_ref, sat_bind, sat_ok]
  -- the first four
  refine sat_go (fun ρ cs2 => ∃ r, Wr n cs r 4 cs2 ∧ ρ = wrE n L a r none) ?_ ?_
  · refine sat_set ?_
    simp only [ev_bin, ev_cmp, ev_list, ev_tuple, ev_callH, ev_callHK, ev_callP, ev_callPK, ev_blt, ev_sub, ev_neg, ev_not, ev_and, ev_or, ev_isi, ev_int, ev_str, ev_bl, ev_non, ev_var, ev_glob, ev_cel, ev_listJ, ev_meth, ev_sortS, ev_slice, evs_cons, evs_nil, evO_none, evO_some, evC_none, evC_some, evI_ex, evI_range, evI_enum, stillW_tup, srcOf_tup, srcOf_lst, srcOf_new, put_nm, put_tp, putS_cons, putS_nil, wipe_cons, wipe_nil, List.getElem?_cons_succ, List.getElem?_cons_zero, List.set_cons_succ, List.set_cons_zero, bind_ok, noX_ok, ofO_some, fz_int, fz_bl, fz_str, fz_ref, fz_lst, fz_new, fz_tup, fz_scr, fz_non, truth_bl, Bool.not_true, Bool.not_false, bop_add, bop_sub, cop_eq_int, cop_ne_int, cop_lt_int, cop_le_int, cop_gt_int, cop_ge_int, subW, items_tup, items_lst, items_new, items_ref, itemsL_lst, itemsL_new, itemsL_ref, isCell_ref, sat_bind, sat_ok, show ∀ cs, blt .list [tI L] cs = mkNew (nums L) cs from fun _ => rfl, ev_neg, mkNew_nums (L := L) (show L.length ≤ 100000 by omega), mkTup_ok (show [W.int (-1)].length ≤ 100000 by simp), bop_mul (a := 8) (b := (n : Int)) (.inl (big_ok (by decide) (by decide)))]
    simp only [ev_bin, ev_cmp, ev_list, ev_tuple, ev_callH, ev_callHK, ev_callP, ev_callPK, ev_blt, ev_sub, ev_neg, ev_not, ev_and, ev_or, ev_isi, ev_int, ev_str, ev_bl, ev_non, ev_var, ev_glob, ev_cel, ev_listJ, ev_meth, ev_sortS, ev_slice, evs_cons, evs_nil, evO_none, evO_some, evC_none, evC_some, evI_ex, evI_range, evI_enum, stillW_tup, srcOf_tup, srcOf_lst, srcOf_new, put_nm, put_tp, putS_cons, putS_nil, wipe_cons, wipe_nil, List.getElem?_cons_succ, List.getElem?_cons_zero, List.set_cons_succ, List.set_cons_zero, bind_ok, noX_ok, ofO_some, fz_int, fz_bl, fz_str, fz_ref, fz_lst, fz_new, fz_tup, fz_scr, fz_non, truth_bl, Bool.not_true, Bool.not_false, bop_add, bop_sub, cop_eq_int, cop_ne_int, cop_lt_int, cop_le_int, cop_gt_int, cop_ge_int, subW, items_tup, items_lst, items_new, items_ref, itemsL_lst, itemsL_new, itemsL_ref, isCell_ref, sat_bind, sat_ok, bop_addT (xs := [.int (-1)]) (ys := nums L) (show [W.int (-1)].length + (nums L).length ≤ 100000 by simp; omega)]
    rw [mkTup_ok (show [W.int (8 * (n : Int))].length ≤ 100000 by simp)]
    simp only [ev_bin, ev_cmp, ev_list, ev_tuple, ev_callH, ev_callHK, ev_callP, ev_callPK, ev_blt, ev_sub, ev_neg, ev_not, ev_and, ev_or, ev_isi, ev_int, ev_str, ev_bl, ev_non, ev_var, ev_glob, ev_cel, ev_listJ, ev_meth, ev_sortS, ev_slice, evs_cons, evs_nil, evO_none, evO_some, evC_none, evC_some, evI_ex, evI_range, evI_enum, stillW_tup, srcOf_tup, srcOf_lst, srcOf_new, put_nm, put_tp, putS_cons, putS_nil, wipe_cons, wipe_nil, List.getElem?_cons_succ, List.getElem?_cons_zero, List.set_cons_succ, List.set_cons_zero, bind_ok, noX_ok, ofO_some, fz_int, fz_bl, fz_str, fz_ref, fz_lst, fz_new, fz_tup, fz_scr, fz_non, truth_bl, Bool.not_true, Bool.not_false, bop_add, bop_sub, cop_eq_int, cop_ne_int, cop_lt_int, cop_le_int, cop_gt_int, cop_ge_int, subW, items_tup, items_lst, items_new, items_ref, itemsL_lst, itemsL_new, itemsL_ref, isCell_ref, sat_bind, sat_ok, bop_addT (xs := nums L) (ys := [.int (8 * (n : Int))]) (show (nums L).length + [W.int (8 * (n : Int))].length ≤ 100000 by simp; omega)]
    refine (c_draw k hs1 (by omega) (by omega)).mono fun w cs2 z => ?_
    obtain ⟨v, rfl, v0, v1, hs2, k2⟩ := z
    simp only [ev_bin, ev_cmp, ev_list, ev_tuple, ev_callH, ev_callHK, ev_callP, ev_callPK, ev_blt, ev_sub, ev_neg, ev_not, ev_and, ev_or, ev_isi, ev_int, ev_str, ev_bl, ev_non, ev_var, ev_glob, ev_cel, ev_listJ, ev_meth, ev_sortS, ev_slice, evs_cons, evs_nil, evO_none, evO_some, evC_none, evC_some, evI_ex, evI_range, evI_enum, stillW_tup, srcOf_tup, srcOf_lst, srcOf_new, put_nm, put_tp, putS_cons, putS_nil, wipe_cons, wipe_nil, List.getElem?_cons_succ, List.getElem?_cons_zero, List.set_cons_succ, List.set_cons_zero, bind_ok, noX_ok, ofO_some, fz_int, fz_bl, fz_str, fz_ref, fz_lst, fz_new, fz_tup, fz_scr, fz_non, truth_bl, Bool.not_true, Bool.not_false, bop_add, bop_sub, cop_eq_int, cop_ne_int, cop_lt_int, cop_le_int, cop_gt_int, cop_ge_int, subW, items_tup, items_lst, items_new, items_ref, itemsL_lst, itemsL_new, itemsL_ref, isCell_ref, sat_bind, sat_ok]
    rw [mkTup_ok (show [W.int (8 * (n : Int) + 1 + v)].length ≤ 100000 by simp)]
    simp only [ev_bin, ev_cmp, ev_list, ev_tuple, ev_callH, ev_callHK, ev_callP, ev_callPK, ev_blt, ev_sub, ev_neg, ev_not, ev_and, ev_or, ev_isi, ev_int, ev_str, ev_bl, ev_non, ev_var, ev_glob, ev_cel, ev_listJ, ev_meth, ev_sortS, ev_slice, evs_cons, evs_nil, evO_none, evO_some, evC_none, evC_some, evI_ex, evI_range, evI_enum, stillW_tup, srcOf_tup, srcOf_lst, srcOf_new, put_nm, put_tp, putS_cons, putS_nil, wipe_cons, wipe_nil, List.getElem?_cons_succ, List.getElem?_cons_zero, List.set_cons_succ, List.set_cons_zero, bind_ok, noX_ok, ofO_some, fz_int, fz_bl, fz_str, fz_ref, fz_lst, fz_new, fz_tup, fz_scr, fz_non, truth_bl, Bool.not_true, Bool.not_false, bop_add, bop_sub, cop_eq_int, cop_ne_int, cop_lt_int, cop_le_int, cop_gt_int, cop_ge_int, subW, items_tup, items_lst, items_new, items_ref, itemsL_lst, itemsL_new, itemsL_ref, isCell_ref, sat_bind, sat_ok, bop_addT (xs := nums L) (ys := [.int (8 * (n : Int) + 1 + v)]) (show (nums L).length + [W.int (8 * (n : Int) + 1 + v)].length ≤ 100000 by simp; omega)]
    rw [mkNew_ok (by simp)]
    simp only [ev_bin, ev_cmp, ev_list, ev_tuple, ev_callH, ev_callHK, ev_callP, ev_callPK, ev_blt, ev_sub, ev_neg, ev_not, ev_and, ev_or, ev_isi, ev_int, ev_str, ev_bl, ev_non, ev_var, ev_glob, ev_cel, ev_listJ, ev_meth, ev_sortS, ev_slice, evs_cons, evs_nil, evO_none, evO_some, evC_none, evC_some, evI_ex, evI_range, evI_enum, stillW_tup, srcOf_tup, srcOf_lst, srcOf_new, put_nm, put_tp, putS_cons, putS_nil, wipe_cons, wipe_nil, List.getElem?_cons_succ, List.getElem?_cons_zero, List.set_cons_succ, List.set_cons_zero, bind_ok, noX_ok, ofO_some, fz_int, fz_bl, fz_str, fz_ref, fz_lst, fz_new, fz_tup, fz_scr, fz_non, truth_bl, Bool.not_true, Bool.not_false, bop_add, bop_sub, cop_eq_int, cop_ne_int, cop_lt_int, cop_le_int, cop_gt_int, cop_ge_int, subW, items_tup, items_lst, items_new, items_ref, itemsL_lst, itemsL_new, itemsL_ref, isCell_ref, sat_bind, sat_ok]
    refine ⟨_, rfl, cs2.length, ⟨⟨_, cellL_end, by simp, by simp, fun b hb => ?_⟩, hs2.app, (k1.ext.trans k2.ext).trans Ext.app, by have := hs2.len; omega, by have := k1.1; have := k2.1; omega⟩, rfl⟩
    simp only [List.mem_cons, List.not_mem_nil, or_false] at hb
    rcases hb with rfl | rfl | rfl | rfl
    · exact bd_atom (gd_lst (by rw [nums_len]; omega) gd_nums) nofun
    · exact bd_mem (A := []) (by simp) (by omega) trivial rfl fun x e => by cases e; omega
    · have := bd_mem (n := n) (A := L) (B := []) (w := .int (8 * (n : Int))) (by omega) (by simp) trivial rfl fun x e => by cases e; omega
      rwa [nums_nil, List.append_nil] at this
    · have := bd_mem (n := n) (A := L) (B := []) (w := .int (8 * (n : Int) + 1 + v)) (by omega) (by simp) trivial rfl fun x e => by cases e; omega
      rwa [nums_nil, List.append_nil] at this
  rintro ρ cs2 ⟨r, h2, rfl⟩
  -- one that is no row
  refine sat_go (fun ρ cs2 => Wr n cs r 5 cs2 ∧ ρ = wrE n L a r none) ?_ ?_
  · refine sat_ex ?_
    simp only [ev_bin, ev_cmp, ev_list, ev_tuple, ev_callH, ev_callHK, ev_callP, ev_callPK, ev_blt, ev_sub, ev_neg, ev_not, ev_and, ev_or, ev_isi, ev_int, ev_str, ev_bl, ev_non, ev_var, ev_glob, ev_cel, ev_listJ, ev_meth, ev_sortS, ev_slice, evs_cons, evs_nil, evO_none, evO_some, evC_none, evC_some, evI_ex, evI_range, evI_enum, stillW_tup, srcOf_tup, srcOf_lst, srcOf_new, put_nm, put_tp, putS_cons, putS_nil, wipe_cons, wipe_nil, List.getElem?_cons_succ, List.getElem?_cons_zero, List.set_cons_succ, List.set_cons_zero, bind_ok, noX_ok, ofO_some, fz_int, fz_bl, fz_str, fz_ref, fz_lst, fz_new, fz_tup, fz_scr, fz_non, truth_bl, Bool.not_true, Bool.not_false, bop_add, bop_sub, cop_eq_int, cop_ne_int, cop_lt_int, cop_le_int, cop_gt_int, cop_ge_int, subW, items_tup, items_lst, items_new, items_ref, itemsL_lst, itemsL_new, itemsL_ref, isCell_ref, sat_bind, sat_ok, h2.cell, if_true]
    rw [mkTup_ok (show [tI L].length ≤ 100000 by simp)]
    simp only [ev_bin, ev_cmp, ev_list, ev_tuple, ev_callH, ev_callHK, ev_callP, ev_callPK, ev_blt, ev_sub, ev_neg, ev_not, ev_and, ev_or, ev_isi, ev_int, ev_str, ev_bl, ev_non, ev_var, ev_glob, ev_cel, ev_listJ, ev_meth, ev_sortS, ev_slice, evs_cons, evs_nil, evO_none, evO_some, evC_none, evC_some, evI_ex, evI_range, evI_enum, stillW_tup, srcOf_tup, srcOf_lst, srcOf_new, put_nm, put_tp, putS_cons, putS_nil, wipe_cons, wipe_nil, List.getElem?_cons_succ, List.getElem?_cons_zero, List.set_cons_succ, List.set_cons_zero, bind_ok, noX_ok, ofO_some, fz_int, fz_bl, fz_str, fz_ref, fz_lst, fz_new, fz_tup, fz_scr, fz_non, truth_bl, Bool.not_true, Bool.not_false, bop_add, bop_sub, cop_eq_int, cop_ne_int, cop_lt_int, cop_le_int, cop_gt_int, cop_ge_int, subW, items_tup, items_lst, items_new, items_ref, itemsL_lst, itemsL_new, itemsL_ref, isCell_ref, sat_bind, sat_ok, bop_mul (a := 8) (b := (n : Int)) (.inl (big_ok (by decide) (by decide)))]
    rw [mkNew_ok (by simp)]
    simp only [ev_bin, ev_cmp, ev_list, ev_tuple, ev_callH, ev_callHK, ev_callP, ev_callPK, ev_blt, ev_sub, ev_neg, ev_not, ev_and, ev_or, ev_isi, ev_int, ev_str, ev_bl, ev_non, ev_var, ev_glob, ev_cel, ev_listJ, ev_meth, ev_sortS, ev_slice, evs_cons, evs_nil, evO_none, evO_some, evC_none, evC_some, evI_ex, evI_range, evI_enum, stillW_tup, srcOf_tup, srcOf_lst, srcOf_new, put_nm, put_tp, putS_cons, putS_nil, wipe_cons, wipe_nil, List.getElem?_cons_succ, List.getElem?_cons_zero, List.set_cons_succ, List.set_cons_zero, bind_ok, noX_ok, ofO_some, fz_int, fz_bl, fz_str, fz_ref, fz_lst, fz_new, fz_tup, fz_scr, fz_non, truth_bl, Bool.not_true, Bool.not_false, bop_add, bop_sub, cop_eq_int, cop_ne_int, cop_lt_int, cop_le_int, cop_gt_int, cop_ge_int, subW, items_tup, items_lst, items_new, items_ref, itemsL_lst, itemsL_new, itemsL_ref, isCell_ref, sat_bind, sat_ok]
    refine (c_draw k h2.sr (by omega) (by omega)).mono fun w cs3 z => ?_
    obtain ⟨v, rfl, v0, v1, hs3, k3⟩ := z
    obtain ⟨x, ex, hx⟩ := at_seven (n := n) (L := L) ll v0 v1
    obtain ⟨cs4, e4, h4⟩ := (h2.draw hs3 k3).add hx (by omega)
    simp only [ev_bin, ev_cmp, ev_list, ev_tuple, ev_callH, ev_callHK, ev_callP, ev_callPK, ev_blt, ev_sub, ev_neg, ev_not, ev_and, ev_or, ev_isi, ev_int, ev_str, ev_bl, ev_non, ev_var, ev_glob, ev_cel, ev_listJ, ev_meth, ev_sortS, ev_slice, evs_cons, evs_nil, evO_none, evO_some, evC_none, evC_some, evI_ex, evI_range, evI_enum, stillW_tup, srcOf_tup, srcOf_lst, srcOf_new, put_nm, put_tp, putS_cons, putS_nil, wipe_cons, wipe_nil, List.getElem?_cons_succ, List.getElem?_cons_zero, List.set_cons_succ, List.set_cons_zero, bind_ok, noX_ok, ofO_some, fz_int, fz_bl, fz_str, fz_ref, fz_lst, fz_new, fz_tup, fz_scr, fz_non, truth_bl, Bool.not_true, Bool.not_false, bop_add, bop_sub, cop_eq_int, cop_ne_int, cop_lt_int, cop_le_int, cop_gt_int, cop_ge_int, subW, items_tup, items_lst, items_new, items_ref, itemsL_lst, itemsL_new, itemsL_ref, isCell_ref, sat_bind, sat_ok, ex, gd_fz hx.gd, e4]
    exact ⟨_, rfl, h4, rfl⟩
  rintro ρ cs3 ⟨h3, rfl⟩
  -- one member that is none
  refine sat_go (fun ρ cs2 => Wr n cs r 6 cs2 ∧ ρ = wrE n L a r none) ?_ ?_
  · refine sat_ex ?_
    simp only [ev_bin, ev_cmp, ev_list, ev_tuple, ev_callH, ev_callHK, ev_callP, ev_callPK, ev_blt, ev_sub, ev_neg, ev_not, ev_and, ev_or, ev_isi, ev_int, ev_str, ev_bl, ev_non, ev_var, ev_glob, ev_cel, ev_listJ, ev_meth, ev_sortS, ev_slice, evs_cons, evs_nil, evO_none, evO_some, evC_none, evC_some, evI_ex, evI_range, evI_enum, stillW_tup, srcOf_tup, srcOf_lst, srcOf_new, put_nm, put_tp, putS_cons, putS_nil, wipe_cons, wipe_nil, List.getElem?_cons_succ, List.getElem?_cons_zero, List.set_cons_succ, List.set_cons_zero, bind_ok, noX_ok, ofO_some, fz_int, fz_bl, fz_str, fz_ref, fz_lst, fz_new, fz_tup, fz_scr, fz_non, truth_bl, Bool.not_true, Bool.not_false, bop_add, bop_sub, cop_eq_int, cop_ne_int, cop_lt_int, cop_le_int, cop_gt_int, cop_ge_int, subW, items_tup, items_lst, items_new, items_ref, itemsL_lst, itemsL_new, itemsL_ref, isCell_ref, sat_bind, sat_ok, h3.cell, if_true, slice_to (L := L) (j := a) (show L.length ≤ 400 by omega), ev_neg]
    rw [mkTup_ok (show [W.int 0].length ≤ 100000 by simp)]
    simp only [ev_bin, ev_cmp, ev_list, ev_tuple, ev_callH, ev_callHK, ev_callP, ev_callPK, ev_blt, ev_sub, ev_neg, ev_not, ev_and, ev_or, ev_isi, ev_int, ev_str, ev_bl, ev_non, ev_var, ev_glob, ev_cel, ev_listJ, ev_meth, ev_sortS, ev_slice, evs_cons, evs_nil, evO_none, evO_some, evC_none, evC_some, evI_ex, evI_range, evI_enum, stillW_tup, srcOf_tup, srcOf_lst, srcOf_new, put_nm, put_tp, putS_cons, putS_nil, wipe_cons, wipe_nil, List.getElem?_cons_succ, List.getElem?_cons_zero, List.set_cons_succ, List.set_cons_zero, bind_ok, noX_ok, ofO_some, fz_int, fz_bl, fz_str, fz_ref, fz_lst, fz_new, fz_tup, fz_scr, fz_non, truth_bl, Bool.not_true, Bool.not_false, bop_add, bop_sub, cop_eq_int, cop_ne_int, cop_lt_int, cop_le_int, cop_gt_int, cop_ge_int, subW, items_tup, items_lst, items_new, items_ref, itemsL_lst, itemsL_new, itemsL_ref, isCell_ref, sat_bind, sat_ok]
    rw [mkNew_ok (by simp)]
    simp only [ev_bin, ev_cmp, ev_list, ev_tuple, ev_callH, ev_callHK, ev_callP, ev_callPK, ev_blt, ev_sub, ev_neg, ev_not, ev_and, ev_or, ev_isi, ev_int, ev_str, ev_bl, ev_non, ev_var, ev_glob, ev_cel, ev_listJ, ev_meth, ev_sortS, ev_slice, evs_cons, evs_nil, evO_none, evO_some, evC_none, evC_some, evI_ex, evI_range, evI_enum, stillW_tup, srcOf_tup, srcOf_lst, srcOf_new, put_nm, put_tp, putS_cons, putS_nil, wipe_cons, wipe_nil, List.getElem?_cons_succ, List.getElem?_cons_zero, List.set_cons_succ, List.set_cons_zero, bind_ok, noX_ok, ofO_some, fz_int, fz_bl, fz_str, fz_ref, fz_lst, fz_new, fz_tup, fz_scr, fz_non, truth_bl, Bool.not_true, Bool.not_false, bop_add, bop_sub, cop_eq_int, cop_ne_int, cop_lt_int, cop_le_int, cop_gt_int, cop_ge_int, subW, items_tup, items_lst, items_new, items_ref, itemsL_lst, itemsL_new, itemsL_ref, isCell_ref, sat_bind, sat_ok]
    refine (c_draw k h3.sr (by omega) (by omega)).mono fun w cs4 z => ?_
    obtain ⟨v, rfl, v0, v1, hs4, k4⟩ := z
    obtain ⟨x, ex, x1, x2, x3, x4⟩ := at_five v0 v1
    obtain ⟨cs5, e5, h5⟩ := (h3.draw hs4 k4).add (bd_mem (n := n) (A := L.take a) (B := L.drop a) (by simp; omega) (by simp; omega) x1 x2 (x4 n)) (by omega)
    simp only [ev_bin, ev_cmp, ev_list, ev_tuple, ev_callH, ev_callHK, ev_callP, ev_callPK, ev_blt, ev_sub, ev_neg, ev_not, ev_and, ev_or, ev_isi, ev_int, ev_str, ev_bl, ev_non, ev_var, ev_glob, ev_cel, ev_listJ, ev_meth, ev_sortS, ev_slice, evs_cons, evs_nil, evO_none, evO_some, evC_none, evC_some, evI_ex, evI_range, evI_enum, stillW_tup, srcOf_tup, srcOf_lst, srcOf_new, put_nm, put_tp, putS_cons, putS_nil, wipe_cons, wipe_nil, List.getElem?_cons_succ, List.getElem?_cons_zero, List.set_cons_succ, List.set_cons_zero, bind_ok, noX_ok, ofO_some, fz_int, fz_bl, fz_str, fz_ref, fz_lst, fz_new, fz_tup, fz_scr, fz_non, truth_bl, Bool.not_true, Bool.not_false, bop_add, bop_sub, cop_eq_int, cop_ne_int, cop_lt_int, cop_le_int, cop_gt_int, cop_ge_int, subW, items_tup, items_lst, items_new, items_ref, itemsL_lst, itemsL_new, itemsL_ref, isCell_ref, sat_bind, sat_ok, ex, x3]
    rw [mkTup_ok (show [x].length ≤ 100000 by simp)]
    simp only [ev_bin, ev_cmp, ev_list, ev_tuple, ev_callH, ev_callHK, ev_callP, ev_callPK, ev_blt, ev_sub, ev_neg, ev_not, ev_and, ev_or, ev_isi, ev_int, ev_str, ev_bl, ev_non, ev_var, ev_glob, ev_cel, ev_listJ, ev_meth, ev_sortS, ev_slice, evs_cons, evs_nil, evO_none, evO_some, evC_none, evC_some, evI_ex, evI_range, evI_enum, stillW_tup, srcOf_tup, srcOf_lst, srcOf_new, put_nm, put_tp, putS_cons, putS_nil, wipe_cons, wipe_nil, List.getElem?_cons_succ, List.getElem?_cons_zero, List.set_cons_succ, List.set_cons_zero, bind_ok, noX_ok, ofO_some, fz_int, fz_bl, fz_str, fz_ref, fz_lst, fz_new, fz_tup, fz_scr, fz_non, truth_bl, Bool.not_true, Bool.not_false, bop_add, bop_sub, cop_eq_int, cop_ne_int, cop_lt_int, cop_le_int, cop_gt_int, cop_ge_int, subW, items_tup, items_lst, items_new, items_ref, itemsL_lst, itemsL_new, itemsL_ref, isCell_ref, sat_bind, sat_ok, bop_addT (xs := nums (L.take a)) (ys := [x]) (show (nums (L.take a)).length + [x].length ≤ 100000 by simp; omega), slice_from (L := L) (j := a) (v := (a : Int)) (show L.length ≤ 400 by omega) rfl, bop_addT (xs := nums (L.take a) ++ [x]) (ys := nums (L.drop a)) (show (nums (L.take a) ++ [x]).length + (nums (L.drop a)).length ≤ 100000 by simp; omega), e5]
    exact ⟨_, rfl, h5, rfl⟩
  rintro ρ cs4 ⟨h4, rfl⟩
  -- a number twice, a text, a truth
  refine sat_go (fun ρ cs2 => Wr n cs r 9 cs2 ∧ ∃ o5, ρ = wrE n L a r o5) ?_ ?_
  · refine sat_if ?_
    simp only [ev_bin, ev_cmp, ev_list, ev_tuple, ev_callH, ev_callHK, ev_callP, ev_callPK, ev_blt, ev_sub, ev_neg, ev_not, ev_and, ev_or, ev_isi, ev_int, ev_str, ev_bl, ev_non, ev_var, ev_glob, ev_cel, ev_listJ, ev_meth, ev_sortS, ev_slice, evs_cons, evs_nil, evO_none, evO_some, evC_none, evC_some, evI_ex, evI_range, evI_enum, stillW_tup, srcOf_tup, srcOf_lst, srcOf_new, put_nm, put_tp, putS_cons, putS_nil, wipe_cons, wipe_nil, List.getElem?_cons_succ, List.getElem?_cons_zero, List.set_cons_succ, List.set_cons_zero, bind_ok, noX_ok, ofO_some, fz_int, fz_bl, fz_str, fz_ref, fz_lst, fz_new, fz_tup, fz_scr, fz_non, truth_bl, Bool.not_true, Bool.not_false, bop_add, bop_sub, cop_eq_int, cop_ne_int, cop_lt_int, cop_le_int, cop_gt_int, cop_ge_int, subW, items_tup, items_lst, items_new, items_ref, itemsL_lst, itemsL_new, itemsL_ref, isCell_ref, sat_bind, sat_ok, blt_len_tup, nums_len]
    cases c : decide ((0 : Int) < (L.length : Int)) with
    | false => exact sat_nil ⟨_, rfl, h4.mono (by omega), _, rfl⟩
    | true =>
        have c0 := of_decide_eq_true c
        refine sat_cons (sat_set ?_)
        simp only [ev_bin, ev_cmp, ev_list, ev_tuple, ev_callH, ev_callHK, ev_callP, ev_callPK, ev_blt, ev_sub, ev_neg, ev_not, ev_and, ev_or, ev_isi, ev_int, ev_str, ev_bl, ev_non, ev_var, ev_glob, ev_cel, ev_listJ, ev_meth, ev_sortS, ev_slice, evs_cons, evs_nil, evO_none, evO_some, evC_none, evC_some, evI_ex, evI_range, evI_enum, stillW_tup, srcOf_tup, srcOf_lst, srcOf_new, put_nm, put_tp, putS_cons, putS_nil, wipe_cons, wipe_nil, List.getElem?_cons_succ, List.getElem?_cons_zero, List.set_cons_succ, List.set_cons_zero, bind_ok, noX_ok, ofO_some, fz_int, fz_bl, fz_str, fz_ref, fz_lst, fz_new, fz_tup, fz_scr, fz_non, truth_bl, Bool.not_true, Bool.not_false, bop_add, bop_sub, cop_eq_int, cop_ne_int, cop_lt_int, cop_le_int, cop_gt_int, cop_ge_int, subW, items_tup, items_lst, items_new, items_ref, itemsL_lst, itemsL_new, itemsL_ref, isCell_ref, sat_bind, sat_ok, blt_len_tup, nums_len]
        refine (c_draw k h4.sr (by omega) (by omega)).mono fun w cs5 z => ?_
        obtain ⟨d, rfl, d0, d1, hs5, k5⟩ := z
        simp only [ev_bin, ev_cmp, ev_list, ev_tuple, ev_callH, ev_callHK, ev_callP, ev_callPK, ev_blt, ev_sub, ev_neg, ev_not, ev_and, ev_or, ev_isi, ev_int, ev_str, ev_bl, ev_non, ev_var, ev_glob, ev_cel, ev_listJ, ev_meth, ev_sortS, ev_slice, evs_cons, evs_nil, evO_none, evO_some, evC_none, evC_some, evI_ex, evI_range, evI_enum, stillW_tup, srcOf_tup, srcOf_lst, srcOf_new, put_nm, put_tp, putS_cons, putS_nil, wipe_cons, wipe_nil, List.getElem?_cons_succ, List.getElem?_cons_zero, List.set_cons_succ, List.set_cons_zero, bind_ok, noX_ok, ofO_some, fz_int, fz_bl, fz_str, fz_ref, fz_lst, fz_new, fz_tup, fz_scr, fz_non, truth_bl, Bool.not_true, Bool.not_false, bop_add, bop_sub, cop_eq_int, cop_ne_int, cop_lt_int, cop_le_int, cop_gt_int, cop_ge_int, subW, items_tup, items_lst, items_new, items_ref, itemsL_lst, itemsL_new, itemsL_ref, isCell_ref, sat_bind, sat_ok]
        rw [mkNew_ok (by simp)]
        simp only [ev_bin, ev_cmp, ev_list, ev_tuple, ev_callH, ev_callHK, ev_callP, ev_callPK, ev_blt, ev_sub, ev_neg, ev_not, ev_and, ev_or, ev_isi, ev_int, ev_str, ev_bl, ev_non, ev_var, ev_glob, ev_cel, ev_listJ, ev_meth, ev_sortS, ev_slice, evs_cons, evs_nil, evO_none, evO_some, evC_none, evC_some, evI_ex, evI_range, evI_enum, stillW_tup, srcOf_tup, srcOf_lst, srcOf_new, put_nm, put_tp, putS_cons, putS_nil, wipe_cons, wipe_nil, List.getElem?_cons_succ, List.getElem?_cons_zero, List.set_cons_succ, List.set_cons_zero, bind_ok, noX_ok, ofO_some, fz_int, fz_bl, fz_str, fz_ref, fz_lst, fz_new, fz_tup, fz_scr, fz_non, truth_bl, Bool.not_true, Bool.not_false, bop_add, bop_sub, cop_eq_int, cop_ne_int, cop_lt_int, cop_le_int, cop_gt_int, cop_ge_int, subW, items_tup, items_lst, items_new, items_ref, itemsL_lst, itemsL_new, itemsL_ref, isCell_ref, sat_bind, sat_ok]
        refine (c_draw k hs5 (by omega) (by omega)).mono fun w cs6 z => ?_
        obtain ⟨v, rfl, v0, v1, hs6, k6⟩ := z
        obtain ⟨x, ex, hx⟩ := at_three (a := 0) (b := (L.length : Int) - 1) (c := d) v0 v1
        obtain ⟨j, rfl⟩ : ∃ q : Nat, x = (q : Int) := ⟨x.toNat, by omega⟩
        have hj : j < L.length := by omega
        have h6 := (h4.draw hs5 k5).draw hs6 k6
        have lo := hL.lo L[j] (List.getElem_mem hj)
        simp only [ev_bin, ev_cmp, ev_list, ev_tuple, ev_callH, ev_callHK, ev_callP, ev_callPK, ev_blt, ev_sub, ev_neg, ev_not, ev_and, ev_or, ev_isi, ev_int, ev_str, ev_bl, ev_non, ev_var, ev_glob, ev_cel, ev_listJ, ev_meth, ev_sortS, ev_slice, evs_cons, evs_nil, evO_none, evO_some, evC_none, evC_some, evI_ex, evI_range, evI_enum, stillW_tup, srcOf_tup, srcOf_lst, srcOf_new, put_nm, put_tp, putS_cons, putS_nil, wipe_cons, wipe_nil, List.getElem?_cons_succ, List.getElem?_cons_zero, List.set_cons_succ, List.set_cons_zero, bind_ok, noX_ok, ofO_some, fz_int, fz_bl, fz_str, fz_ref, fz_lst, fz_new, fz_tup, fz_scr, fz_non, truth_bl, Bool.not_true, Bool.not_false, bop_add, bop_sub, cop_eq_int, cop_ne_int, cop_lt_int, cop_le_int, cop_gt_int, cop_ge_int, subW, items_tup, items_lst, items_new, items_ref, itemsL_lst, itemsL_new, itemsL_ref, isCell_ref, sat_bind, sat_ok, ex]
        obtain ⟨cs7, e7, h7⟩ := h6.add (bd_pair (n := n) (A := L.take j) (B := L.drop (j + 1)) (x := L[j]) (y := L[j]) (by simp; omega) (by simp; omega) (Int.le_refl _)) (by omega)
        refine sat_cons (sat_ex ?_)
        simp only [ev_bin, ev_cmp, ev_list, ev_tuple, ev_callH, ev_callHK, ev_callP, ev_callPK, ev_blt, ev_sub, ev_neg, ev_not, ev_and, ev_or, ev_isi, ev_int, ev_str, ev_bl, ev_non, ev_var, ev_glob, ev_cel, ev_listJ, ev_meth, ev_sortS, ev_slice, evs_cons, evs_nil, evO_none, evO_some, evC_none, evC_some, evI_ex, evI_range, evI_enum, stillW_tup, srcOf_tup, srcOf_lst, srcOf_new, put_nm, put_tp, putS_cons, putS_nil, wipe_cons, wipe_nil, List.getElem?_cons_succ, List.getElem?_cons_zero, List.set_cons_succ, List.set_cons_zero, bind_ok, noX_ok, ofO_some, fz_int, fz_bl, fz_str, fz_ref, fz_lst, fz_new, fz_tup, fz_scr, fz_non, truth_bl, Bool.not_true, Bool.not_false, bop_add, bop_sub, cop_eq_int, cop_ne_int, cop_lt_int, cop_le_int, cop_gt_int, cop_ge_int, subW, items_tup, items_lst, items_new, items_ref, itemsL_lst, itemsL_new, itemsL_ref, isCell_ref, sat_bind, sat_ok, h6.cell, if_true, slice_to (L := L) (j := j) (show L.length ≤ 400 by omega), at_nat1 (L := L) (j := j) rfl hj]
        rw [mkTup_ok (show [W.int L[j], W.int L[j]].length ≤ 100000 by simp)]
        simp only [ev_bin, ev_cmp, ev_list, ev_tuple, ev_callH, ev_callHK, ev_callP, ev_callPK, ev_blt, ev_sub, ev_neg, ev_not, ev_and, ev_or, ev_isi, ev_int, ev_str, ev_bl, ev_non, ev_var, ev_glob, ev_cel, ev_listJ, ev_meth, ev_sortS, ev_slice, evs_cons, evs_nil, evO_none, evO_some, evC_none, evC_some, evI_ex, evI_range, evI_enum, stillW_tup, srcOf_tup, srcOf_lst, srcOf_new, put_nm, put_tp, putS_cons, putS_nil, wipe_cons, wipe_nil, List.getElem?_cons_succ, List.getElem?_cons_zero, List.set_cons_succ, List.set_cons_zero, bind_ok, noX_ok, ofO_some, fz_int, fz_bl, fz_str, fz_ref, fz_lst, fz_new, fz_tup, fz_scr, fz_non, truth_bl, Bool.not_true, Bool.not_false, bop_add, bop_sub, cop_eq_int, cop_ne_int, cop_lt_int, cop_le_int, cop_gt_int, cop_ge_int, subW, items_tup, items_lst, items_new, items_ref, itemsL_lst, itemsL_new, itemsL_ref, isCell_ref, sat_bind, sat_ok, bop_addT (xs := nums (L.take j)) (ys := [W.int L[j], W.int L[j]]) (show (nums (L.take j)).length + [W.int L[j], W.int L[j]].length ≤ 100000 by simp; omega), slice_from (L := L) (j := j + 1) (v := (j : Int) + 1) (show L.length ≤ 400 by omega) (by omega), bop_addT (xs := nums (L.take j) ++ [W.int L[j], W.int L[j]]) (ys := nums (L.drop (j + 1))) (show (nums (L.take j) ++ [W.int L[j], W.int L[j]]).length + (nums (L.drop (j + 1))).length ≤ 100000 by simp; omega), e7]
        obtain ⟨cs8, e8, h8⟩ := h7.add (bd_mem (n := n) (A := L.take j) (B := L.drop (j + 1)) (w := .str (PySem.Str.ofString (toString L[j]))) (by simp; omega) (by simp; omega) trivial (gd_str 2 _) nofun) (by omega)
        refine sat_cons (sat_ex ?_)
        simp only [ev_bin, ev_cmp, ev_list, ev_tuple, ev_callH, ev_callHK, ev_callP, ev_callPK, ev_blt, ev_sub, ev_neg, ev_not, ev_and, ev_or, ev_isi, ev_int, ev_str, ev_bl, ev_non, ev_var, ev_glob, ev_cel, ev_listJ, ev_meth, ev_sortS, ev_slice, evs_cons, evs_nil, evO_none, evO_some, evC_none, evC_some, evI_ex, evI_range, evI_enum, stillW_tup, srcOf_tup, srcOf_lst, srcOf_new, put_nm, put_tp, putS_cons, putS_nil, wipe_cons, wipe_nil, List.getElem?_cons_succ, List.getElem?_cons_zero, List.set_cons_succ, List.set_cons_zero, bind_ok, noX_ok, ofO_some, fz_int, fz_bl, fz_str, fz_ref, fz_lst, fz_new, fz_tup, fz_scr, fz_non, truth_bl, Bool.not_true, Bool.not_false, bop_add, bop_sub, cop_eq_int, cop_ne_int, cop_lt_int, cop_le_int, cop_gt_int, cop_ge_int, subW, items_tup, items_lst, items_new, items_ref, itemsL_lst, itemsL_new, itemsL_ref, isCell_ref, sat_bind, sat_ok, h7.cell, if_true, slice_to (L := L) (j := j) (show L.length ≤ 400 by omega), at_nat1 (L := L) (j := j) rfl hj, strI_ok (i := L[j]) lo.1 (by omega)]
        rw [mkTup_ok (show [W.str (PySem.Str.ofString (toString L[j]))].length ≤ 100000 by simp)]
        simp only [ev_bin, ev_cmp, ev_list, ev_tuple, ev_callH, ev_callHK, ev_callP, ev_callPK, ev_blt, ev_sub, ev_neg, ev_not, ev_and, ev_or, ev_isi, ev_int, ev_str, ev_bl, ev_non, ev_var, ev_glob, ev_cel, ev_listJ, ev_meth, ev_sortS, ev_slice, evs_cons, evs_nil, evO_none, evO_some, evC_none, evC_some, evI_ex, evI_range, evI_enum, stillW_tup, srcOf_tup, srcOf_lst, srcOf_new, put_nm, put_tp, putS_cons, putS_nil, wipe_cons, wipe_nil, List.getElem?_cons_succ, List.getElem?_cons_zero, List.set_cons_succ, List.set_cons_zero, bind_ok, noX_ok, ofO_some, fz_int, fz_bl, fz_str, fz_ref, fz_lst, fz_new, fz_tup, fz_scr, fz_non, truth_bl, Bool.not_true, Bool.not_false, bop_add, bop_sub, cop_eq_int, cop_ne_int, cop_lt_int, cop_le_int, cop_gt_int, cop_ge_int, subW, items_tup, items_lst, items_new, items_ref, itemsL_lst, itemsL_new, itemsL_ref, isCell_ref, sat_bind, sat_ok, bop_addT (xs := nums (L.take j)) (ys := [W.str (PySem.Str.ofString (toString L[j]))]) (show (nums (L.take j)).length + [W.str (PySem.Str.ofString (toString L[j]))].length ≤ 100000 by simp; omega), slice_from (L := L) (j := j + 1) (v := (j : Int) + 1) (show L.length ≤ 400 by omega) (by omega), bop_addT (xs := nums (L.take j) ++ [W.str (PySem.Str.ofString (toString L[j]))]) (ys := nums (L.drop (j + 1))) (show (nums (L.take j) ++ [W.str (PySem.Str.ofString (toString L[j]))]).length + (nums (L.drop (j + 1))).length ≤ 100000 by simp; omega), e8]
        refine sat_cons (sat_if ?_)
        have h0 : 0 < L.length := by omega
        simp only [ev_bin, ev_cmp, ev_list, ev_tuple, ev_callH, ev_callHK, ev_callP, ev_callPK, ev_blt, ev_sub, ev_neg, ev_not, ev_and, ev_or, ev_isi, ev_int, ev_str, ev_bl, ev_non, ev_var, ev_glob, ev_cel, ev_listJ, ev_meth, ev_sortS, ev_slice, evs_cons, evs_nil, evO_none, evO_some, evC_none, evC_some, evI_ex, evI_range, evI_enum, stillW_tup, srcOf_tup, srcOf_lst, srcOf_new, put_nm, put_tp, putS_cons, putS_nil, wipe_cons, wipe_nil, List.getElem?_cons_succ, List.getElem?_cons_zero, List.set_cons_succ, List.set_cons_zero, bind_ok, noX_ok, ofO_some, fz_int, fz_bl, fz_str, fz_ref, fz_lst, fz_new, fz_tup, fz_scr, fz_non, truth_bl, Bool.not_true, Bool.not_false, bop_add, bop_sub, cop_eq_int, cop_ne_int, cop_lt_int, cop_le_int, cop_gt_int, cop_ge_int, subW, items_tup, items_lst, items_new, items_ref, itemsL_lst, itemsL_new, itemsL_ref, isCell_ref, sat_bind, sat_ok, at_nat1 (L := L) (j := 0) (v := 0) rfl h0]
        cases decide (L[0] ≤ 1) with
        | false => exact sat_nil (sat_nil ⟨_, rfl, h8.mono (by omega), _, rfl⟩)
        | true =>
            obtain ⟨cs9, e9, h9⟩ := h8.add (bd_mem (n := n) (A := []) (B := L.drop 1) (w := .bl (L[0] == 1)) (by simp) (by simp; omega) trivial rfl nofun) (by omega)
            refine sat_cons (sat_ex ?_)
            simp only [ev_bin, ev_cmp, ev_list, ev_tuple, ev_callH, ev_callHK, ev_callP, ev_callPK, ev_blt, ev_sub, ev_neg, ev_not, ev_and, ev_or, ev_isi, ev_int, ev_str, ev_bl, ev_non, ev_var, ev_glob, ev_cel, ev_listJ, ev_meth, ev_sortS, ev_slice, evs_cons, evs_nil, evO_none, evO_some, evC_none, evC_some, evI_ex, evI_range, evI_enum, stillW_tup, srcOf_tup, srcOf_lst, srcOf_new, put_nm, put_tp, putS_cons, putS_nil, wipe_cons, wipe_nil, List.getElem?_cons_succ, List.getElem?_cons_zero, List.set_cons_succ, List.set_cons_zero, bind_ok, noX_ok, ofO_some, fz_int, fz_bl, fz_str, fz_ref, fz_lst, fz_new, fz_tup, fz_scr, fz_non, truth_bl, Bool.not_true, Bool.not_false, bop_add, bop_sub, cop_eq_int, cop_ne_int, cop_lt_int, cop_le_int, cop_gt_int, cop_ge_int, subW, items_tup, items_lst, items_new, items_ref, itemsL_lst, itemsL_new, itemsL_ref, isCell_ref, sat_bind, sat_ok, h8.cell, if_true, at_nat1 (L := L) (j := 0) (v := 0) rfl h0]
            rw [mkTup_ok (show [W.bl (L[0] == 1)].length ≤ 100000 by simp)]
            rw [nums_nil, List.nil_append] at e9
            simp only [ev_bin, ev_cmp, ev_list, ev_tuple, ev_callH, ev_callHK, ev_callP, ev_callPK, ev_blt, ev_sub, ev_neg, ev_not, ev_and, ev_or, ev_isi, ev_int, ev_str, ev_bl, ev_non, ev_var, ev_glob, ev_cel, ev_listJ, ev_meth, ev_sortS, ev_slice, evs_cons, evs_nil, evO_none, evO_some, evC_none, evC_some, evI_ex, evI_range, evI_enum, stillW_tup, srcOf_tup, srcOf_lst, srcOf_new, put_nm, put_tp, putS_cons, putS_nil, wipe_cons, wipe_nil, List.getElem?_cons_succ, List.getElem?_cons_zero, List.set_cons_succ, List.set_cons_zero, bind_ok, noX_ok, ofO_some, fz_int, fz_bl, fz_str, fz_ref, fz_lst, fz_new, fz_tup, fz_scr, fz_non, truth_bl, Bool.not_true, Bool.not_false, bop_add, bop_sub, cop_eq_int, cop_ne_int, cop_lt_int, cop_le_int, cop_gt_int, cop_ge_int, subW, items_tup, items_lst, items_new, items_ref, itemsL_lst, itemsL_new, itemsL_ref, isCell_ref, sat_bind, sat_ok, slice_from (L := L) (j := 1) (v := 1) (show L.length ≤ 400 by omega) rfl, bop_addT (xs := [W.bl (L[0] == 1)]) (ys := nums (L.drop 1)) (show [W.bl (L[0] == 1)].length + (nums (L.drop 1)).length ≤ 100000 by simp; omega), e9]
            exact sat_nil (sat_nil ⟨_, rfl, h9, _, rfl⟩)
  rintro ρ cs5 ⟨h5, o5, rfl⟩
  -- two exchanged
  refine sat_go (fun ρ cs2 => Wr n cs r 11 cs2 ∧ ∃ o5, ρ = wrE n L a r o5) ?_ ?_
  · refine sat_if ?_
    simp only [ev_bin, ev_cmp, ev_list, ev_tuple, ev_callH, ev_callHK, ev_callP, ev_callPK, ev_blt, ev_sub, ev_neg, ev_not, ev_and, ev_or, ev_isi, ev_int, ev_str, ev_bl, ev_non, ev_var, ev_glob, ev_cel, ev_listJ, ev_meth, ev_sortS, ev_slice, evs_cons, evs_nil, evO_none, evO_some, evC_none, evC_some, evI_ex, evI_range, evI_enum, stillW_tup, srcOf_tup, srcOf_lst, srcOf_new, put_nm, put_tp, putS_cons, putS_nil, wipe_cons, wipe_nil, List.getElem?_cons_succ, List.getElem?_cons_zero, List.set_cons_succ, List.set_cons_zero, bind_ok, noX_ok, ofO_some, fz_int, fz_bl, fz_str, fz_ref, fz_lst, fz_new, fz_tup, fz_scr, fz_non, truth_bl, Bool.not_true, Bool.not_false, bop_add, bop_sub, cop_eq_int, cop_ne_int, cop_lt_int, cop_le_int, cop_gt_int, cop_ge_int, subW, items_tup, items_lst, items_new, items_ref, itemsL_lst, itemsL_new, itemsL_ref, isCell_ref, sat_bind, sat_ok, blt_len_tup, nums_len]
    cases c : decide ((1 : Int) < (L.length : Int)) with
    | false => exact sat_nil ⟨_, rfl, h5.mono (by omega), _, rfl⟩
    | true =>
        have c0 := of_decide_eq_true c
        refine sat_cons (sat_set ?_)
        simp only [ev_bin, ev_cmp, ev_list, ev_tuple, ev_callH, ev_callHK, ev_callP, ev_callPK, ev_blt, ev_sub, ev_neg, ev_not, ev_and, ev_or, ev_isi, ev_int, ev_str, ev_bl, ev_non, ev_var, ev_glob, ev_cel, ev_listJ, ev_meth, ev_sortS, ev_slice, evs_cons, evs_nil, evO_none, evO_some, evC_none, evC_some, evI_ex, evI_range, evI_enum, stillW_tup, srcOf_tup, srcOf_lst, srcOf_new, put_nm, put_tp, putS_cons, putS_nil, wipe_cons, wipe_nil, List.getElem?_cons_succ, List.getElem?_cons_zero, List.set_cons_succ, List.set_cons_zero, bind_ok, noX_ok, ofO_some, fz_int, fz_bl, fz_str, fz_ref, fz_lst, fz_new, fz_tup, fz_scr, fz_non, truth_bl, Bool.not_true, Bool.not_false, bop_add, bop_sub, cop_eq_int, cop_ne_int, cop_lt_int, cop_le_int, cop_gt_int, cop_ge_int, subW, items_tup, items_lst, items_new, items_ref, itemsL_lst, itemsL_new, itemsL_ref, isCell_ref, sat_bind, sat_ok, blt_len_tup, nums_len]
        refine (c_draw k h5.sr (by omega) (by omega)).mono fun w cs6 z => ?_
        obtain ⟨d, rfl, d0, d1, hs6, k6⟩ := z
        simp only [ev_bin, ev_cmp, ev_list, ev_tuple, ev_callH, ev_callHK, ev_callP, ev_callPK, ev_blt, ev_sub, ev_neg, ev_not, ev_and, ev_or, ev_isi, ev_int, ev_str, ev_bl, ev_non, ev_var, ev_glob, ev_cel, ev_listJ, ev_meth, ev_sortS, ev_slice, evs_cons, evs_nil, evO_none, evO_some, evC_none, evC_some, evI_ex, evI_range, evI_enum, stillW_tup, srcOf_tup, srcOf_lst, srcOf_new, put_nm, put_tp, putS_cons, putS_nil, wipe_cons, wipe_nil, List.getElem?_cons_succ, List.getElem?_cons_zero, List.set_cons_succ, List.set_cons_zero, bind_ok, noX_ok, ofO_some, fz_int, fz_bl, fz_str, fz_ref, fz_lst, fz_new, fz_tup, fz_scr, fz_non, truth_bl, Bool.not_true, Bool.not_false, bop_add, bop_sub, cop_eq_int, cop_ne_int, cop_lt_int, cop_le_int, cop_gt_int, cop_ge_int, subW, items_tup, items_lst, items_new, items_ref, itemsL_lst, itemsL_new, itemsL_ref, isCell_ref, sat_bind, sat_ok]
        rw [mkNew_ok (by simp)]
        simp only [ev_bin, ev_cmp, ev_list, ev_tuple, ev_callH, ev_callHK, ev_callP, ev_callPK, ev_blt, ev_sub, ev_neg, ev_not, ev_and, ev_or, ev_isi, ev_int, ev_str, ev_bl, ev_non, ev_var, ev_glob, ev_cel, ev_listJ, ev_meth, ev_sortS, ev_slice, evs_cons, evs_nil, evO_none, evO_some, evC_none, evC_some, evI_ex, evI_range, evI_enum, stillW_tup, srcOf_tup, srcOf_lst, srcOf_new, put_nm, put_tp, putS_cons, putS_nil, wipe_cons, wipe_nil, List.getElem?_cons_succ, List.getElem?_cons_zero, List.set_cons_succ, List.set_cons_zero, bind_ok, noX_ok, ofO_some, fz_int, fz_bl, fz_str, fz_ref, fz_lst, fz_new, fz_tup, fz_scr, fz_non, truth_bl, Bool.not_true, Bool.not_false, bop_add, bop_sub, cop_eq_int, cop_ne_int, cop_lt_int, cop_le_int, cop_gt_int, cop_ge_int, subW, items_tup, items_lst, items_new, items_ref, itemsL_lst, itemsL_new, itemsL_ref, isCell_ref, sat_bind, sat_ok]
        refine (c_draw k hs6 (by omega) (by omega)).mono fun w cs7 z => ?_
        obtain ⟨v, rfl, v0, v1, hs7, k7⟩ := z
        obtain ⟨x, ex, hx⟩ := at_three (a := 0) (b := (L.length : Int) - 2) (c := d) v0 v1
        obtain ⟨j, rfl⟩ : ∃ q : Nat, x = (q : Int) := ⟨x.toNat, by omega⟩
        have hj : j + 1 < L.length := by omega
        have h7 := (h5.draw hs6 k6).draw hs7 k7
        have lt := List.pairwise_iff_getElem.mp hL.up j (j + 1) (by omega) hj (by omega)
        simp only [ev_bin, ev_cmp, ev_list, ev_tuple, ev_callH, ev_callHK, ev_callP, ev_callPK, ev_blt, ev_sub, ev_neg, ev_not, ev_and, ev_or, ev_isi, ev_int, ev_str, ev_bl, ev_non, ev_var, ev_glob, ev_cel, ev_listJ, ev_meth, ev_sortS, ev_slice, evs_cons, evs_nil, evO_none, evO_some, evC_none, evC_some, evI_ex, evI_range, evI_enum, stillW_tup, srcOf_tup, srcOf_lst, srcOf_new, put_nm, put_tp, putS_cons, putS_nil, wipe_cons, wipe_nil, List.getElem?_cons_succ, List.getElem?_cons_zero, List.set_cons_succ, List.set_cons_zero, bind_ok, noX_ok, ofO_some, fz_int, fz_bl, fz_str, fz_ref, fz_lst, fz_new, fz_tup, fz_scr, fz_non, truth_bl, Bool.not_true, Bool.not_false, bop_add, bop_sub, cop_eq_int, cop_ne_int, cop_lt_int, cop_le_int, cop_gt_int, cop_ge_int, subW, items_tup, items_lst, items_new, items_ref, itemsL_lst, itemsL_new, itemsL_ref, isCell_ref, sat_bind, sat_ok, ex]
        obtain ⟨cs8, e8, h8⟩ := h7.add (bd_pair (n := n) (A := L.take j) (B := L.drop (j + 2)) (x := L[j + 1]) (y := L[j]) (by simp; omega) (by simp; omega) (by omega)) (by omega)
        refine sat_cons (sat_ex ?_)
        simp only [ev_bin, ev_cmp, ev_list, ev_tuple, ev_callH, ev_callHK, ev_callP, ev_callPK, ev_blt, ev_sub, ev_neg, ev_not, ev_and, ev_or, ev_isi, ev_int, ev_str, ev_bl, ev_non, ev_var, ev_glob, ev_cel, ev_listJ, ev_meth, ev_sortS, ev_slice, evs_cons, evs_nil, evO_none, evO_some, evC_none, evC_some, evI_ex, evI_range, evI_enum, stillW_tup, srcOf_tup, srcOf_lst, srcOf_new, put_nm, put_tp, putS_cons, putS_nil, wipe_cons, wipe_nil, List.getElem?_cons_succ, List.getElem?_cons_zero, List.set_cons_succ, List.set_cons_zero, bind_ok, noX_ok, ofO_some, fz_int, fz_bl, fz_str, fz_ref, fz_lst, fz_new, fz_tup, fz_scr, fz_non, truth_bl, Bool.not_true, Bool.not_false, bop_add, bop_sub, cop_eq_int, cop_ne_int, cop_lt_int, cop_le_int, cop_gt_int, cop_ge_int, subW, items_tup, items_lst, items_new, items_ref, itemsL_lst, itemsL_new, itemsL_ref, isCell_ref, sat_bind, sat_ok, h7.cell, if_true, slice_to (L := L) (j := j) (show L.length ≤ 400 by omega), at_nat1 (L := L) (j := j) rfl (show j < L.length by omega), at_nat1 (L := L) (j := j + 1) (v := (j : Int) + 1) (by omega) hj]
        rw [mkTup_ok (show [W.int L[j + 1], W.int L[j]].length ≤ 100000 by simp)]
        simp only [ev_bin, ev_cmp, ev_list, ev_tuple, ev_callH, ev_callHK, ev_callP, ev_callPK, ev_blt, ev_sub, ev_neg, ev_not, ev_and, ev_or, ev_isi, ev_int, ev_str, ev_bl, ev_non, ev_var, ev_glob, ev_cel, ev_listJ, ev_meth, ev_sortS, ev_slice, evs_cons, evs_nil, evO_none, evO_some, evC_none, evC_some, evI_ex, evI_range, evI_enum, stillW_tup, srcOf_tup, srcOf_lst, srcOf_new, put_nm, put_tp, putS_cons, putS_nil, wipe_cons, wipe_nil, List.getElem?_cons_succ, List.getElem?_cons_zero, List.set_cons_succ, List.set_cons_zero, bind_ok, noX_ok, ofO_some, fz_int, fz_bl, fz_str, fz_ref, fz_lst, fz_new, fz_tup, fz_scr, fz_non, truth_bl, Bool.not_true, Bool.not_false, bop_add, bop_sub, cop_eq_int, cop_ne_int, cop_lt_int, cop_le_int, cop_gt_int, cop_ge_int, subW, items_tup, items_lst, items_new, items_ref, itemsL_lst, itemsL_new, itemsL_ref, isCell_ref, sat_bind, sat_ok, bop_addT (xs := nums (L.take j)) (ys := [W.int L[j + 1], W.int L[j]]) (show (nums (L.take j)).length + [W.int L[j + 1], W.int L[j]].length ≤ 100000 by simp; omega), slice_from (L := L) (j := j + 2) (v := (j : Int) + 2) (show L.length ≤ 400 by omega) (by omega), bop_addT (xs := nums (L.take j) ++ [W.int L[j + 1], W.int L[j]]) (ys := nums (L.drop (j + 2))) (show (nums (L.take j) ++ [W.int L[j + 1], W.int L[j]]).length + (nums (L.drop (j + 2))).length ≤ 100000 by simp; omega), e8]
        have hbad : Bd n (.tup (nums (L.drop 1) ++ nums (L.take 1))) := by
          match L, hL.up, c0, ll with
          | x :: y :: M, hp, _, ll =>
              have e : nums ((x :: y :: M).drop 1) ++ nums ((x :: y :: M).take 1) = nums (y :: M ++ [x]) := by simp [nums]
              rw [e]
              have lM : M.length ≤ 400 := by simp at ll; omega
              refine bd_tup (by simp; omega) at_nums fun L' e hp' hL' => ?_
              have := nums_inj.mp e
              subst this
              rw [List.pairwise_append] at hp'
              have h1 := hp'.2.2 y (by simp) x (by simp)
              have h2 := (List.pairwise_cons.mp hp).1 y (by simp)
              omega
        obtain ⟨cs9, e9, h9⟩ := h8.add hbad (by omega)
        refine sat_cons (sat_ex ?_)
        simp only [ev_bin, ev_cmp, ev_list, ev_tuple, ev_callH, ev_callHK, ev_callP, ev_callPK, ev_blt, ev_sub, ev_neg, ev_not, ev_and, ev_or, ev_isi, ev_int, ev_str, ev_bl, ev_non, ev_var, ev_glob, ev_cel, ev_listJ, ev_meth, ev_sortS, ev_slice, evs_cons, evs_nil, evO_none, evO_some, evC_none, evC_some, evI_ex, evI_range, evI_enum, stillW_tup, srcOf_tup, srcOf_lst, srcOf_new, put_nm, put_tp, putS_cons, putS_nil, wipe_cons, wipe_nil, List.getElem?_cons_succ, List.getElem?_cons_zero, List.set_cons_succ, List.set_cons_zero, bind_ok, noX_ok, ofO_some, fz_int, fz_bl, fz_str, fz_ref, fz_lst, fz_new, fz_tup, fz_scr, fz_non, truth_bl, Bool.not_true, Bool.not_false, bop_add, bop_sub, cop_eq_int, cop_ne_int, cop_lt_int, cop_le_int, cop_gt_int, cop_ge_int, subW, items_tup, items_lst, items_new, items_ref, itemsL_lst, itemsL_new, itemsL_ref, isCell_ref, sat_bind, sat_ok, h8.cell, if_true, slice_from (L := L) (j := 1) (v := 1) (show L.length ≤ 400 by omega) rfl, show ∀ cs, sliceW (.tup (nums L)) none (some 1) cs = .ok (.tup (nums (L.take 1))) cs from fun cs => slice_to (L := L) (j := 1) (cs := cs) (by omega), bop_addT (xs := nums (L.drop 1)) (ys := nums (L.take 1)) (show (nums (L.drop 1)).length + (nums (L.take 1)).length ≤ 100000 by simp; omega), e9]
        exact sat_nil ⟨_, rfl, h9, _, rfl⟩
  rintro ρ cs6 ⟨h6, o5, rfl⟩
  -- a truth in the second place
  refine sat_go (fun ρ cs2 => Wr n cs r 12 cs2 ∧ ∃ o5, ρ = wrE n L a r o5) ?_ ?_
  · refine sat_if ?_
    simp only [ev_bin, ev_cmp, ev_list, ev_tuple, ev_callH, ev_callHK, ev_callP, ev_callPK, ev_blt, ev_sub, ev_neg, ev_not, ev_and, ev_or, ev_isi, ev_int, ev_str, ev_bl, ev_non, ev_var, ev_glob, ev_cel, ev_listJ, ev_meth, ev_sortS, ev_slice, evs_cons, evs_nil, evO_none, evO_some, evC_none, evC_some, evI_ex, evI_range, evI_enum, stillW_tup, srcOf_tup, srcOf_lst, srcOf_new, put_nm, put_tp, putS_cons, putS_nil, wipe_cons, wipe_nil, List.getElem?_cons_succ, List.getElem?_cons_zero, List.set_cons_succ, List.set_cons_zero, bind_ok, noX_ok, ofO_some, fz_int, fz_bl, fz_str, fz_ref, fz_lst, fz_new, fz_tup, fz_scr, fz_non, truth_bl, Bool.not_true, Bool.not_false, bop_add, bop_sub, cop_eq_int, cop_ne_int, cop_lt_int, cop_le_int, cop_gt_int, cop_ge_int, subW, items_tup, items_lst, items_new, items_ref, itemsL_lst, itemsL_new, itemsL_ref, isCell_ref, sat_bind, sat_ok, blt_len_tup, nums_len]
    cases c : decide ((1 : Int) < (L.length : Int)) with
    | false =>
        simp only [ev_bin, ev_cmp, ev_list, ev_tuple, ev_callH, ev_callHK, ev_callP, ev_callPK, ev_blt, ev_sub, ev_neg, ev_not, ev_and, ev_or, ev_isi, ev_int, ev_str, ev_bl, ev_non, ev_var, ev_glob, ev_cel, ev_listJ, ev_meth, ev_sortS, ev_slice, evs_cons, evs_nil, evO_none, evO_some, evC_none, evC_some, evI_ex, evI_range, evI_enum, stillW_tup, srcOf_tup, srcOf_lst, srcOf_new, put_nm, put_tp, putS_cons, putS_nil, wipe_cons, wipe_nil, List.getElem?_cons_succ, List.getElem?_cons_zero, List.set_cons_succ, List.set_cons_zero, bind_ok, noX_ok, ofO_some, fz_int, fz_bl, fz_str, fz_ref, fz_lst, fz_new, fz_tup, fz_scr, fz_non, truth_bl, Bool.not_true, Bool.not_false, bop_add, bop_sub, cop_eq_int, cop_ne_int, cop_lt_int, cop_le_int, cop_gt_int, cop_ge_int, subW, items_tup, items_lst, items_new, items_ref, itemsL_lst, itemsL_new, itemsL_ref, isCell_ref, sat_bind, sat_ok]
        exact sat_nil ⟨_, rfl, h6.mono (by omega), _, rfl⟩
    | true =>
        have c0 := of_decide_eq_true c
        have h0 : 0 < L.length := by omega
        have h1 : 1 < L.length := by omega
        simp only [ev_bin, ev_cmp, ev_list, ev_tuple, ev_callH, ev_callHK, ev_callP, ev_callPK, ev_blt, ev_sub, ev_neg, ev_not, ev_and, ev_or, ev_isi, ev_int, ev_str, ev_bl, ev_non, ev_var, ev_glob, ev_cel, ev_listJ, ev_meth, ev_sortS, ev_slice, evs_cons, evs_nil, evO_none, evO_some, evC_none, evC_some, evI_ex, evI_range, evI_enum, stillW_tup, srcOf_tup, srcOf_lst, srcOf_new, put_nm, put_tp, putS_cons, putS_nil, wipe_cons, wipe_nil, List.getElem?_cons_succ, List.getElem?_cons_zero, List.set_cons_succ, List.set_cons_zero, bind_ok, noX_ok, ofO_some, fz_int, fz_bl, fz_str, fz_ref, fz_lst, fz_new, fz_tup, fz_scr, fz_non, truth_bl, Bool.not_true, Bool.not_false, bop_add, bop_sub, cop_eq_int, cop_ne_int, cop_lt_int, cop_le_int, cop_gt_int, cop_ge_int, subW, items_tup, items_lst, items_new, items_ref, itemsL_lst, itemsL_new, itemsL_ref, isCell_ref, sat_bind, sat_ok, at_nat1 (L := L) (j := 1) (v := 1) rfl h1]
        cases L[1] == 1 with
        | false => exact sat_nil ⟨_, rfl, h6.mono (by omega), _, rfl⟩
        | true =>
            obtain ⟨cs9, e9, h9⟩ := h6.add (bd_mem (n := n) (A := [L[0]]) (B := L.drop 2) (w := .bl true) (by simp) (by simp; omega) trivial rfl nofun) (by omega)
            refine sat_cons (sat_ex ?_)
            simp only [ev_bin, ev_cmp, ev_list, ev_tuple, ev_callH, ev_callHK, ev_callP, ev_callPK, ev_blt, ev_sub, ev_neg, ev_not, ev_and, ev_or, ev_isi, ev_int, ev_str, ev_bl, ev_non, ev_var, ev_glob, ev_cel, ev_listJ, ev_meth, ev_sortS, ev_slice, evs_cons, evs_nil, evO_none, evO_some, evC_none, evC_some, evI_ex, evI_range, evI_enum, stillW_tup, srcOf_tup, srcOf_lst, srcOf_new, put_nm, put_tp, putS_cons, putS_nil, wipe_cons, wipe_nil, List.getElem?_cons_succ, List.getElem?_cons_zero, List.set_cons_succ, List.set_cons_zero, bind_ok, noX_ok, ofO_some, fz_int, fz_bl, fz_str, fz_ref, fz_lst, fz_new, fz_tup, fz_scr, fz_non, truth_bl, Bool.not_true, Bool.not_false, bop_add, bop_sub, cop_eq_int, cop_ne_int, cop_lt_int, cop_le_int, cop_gt_int, cop_ge_int, subW, items_tup, items_lst, items_new, items_ref, itemsL_lst, itemsL_new, itemsL_ref, isCell_ref, sat_bind, sat_ok, h6.cell, if_true, at_nat1 (L := L) (j := 0) (v := 0) rfl h0]
            rw [mkTup_ok (show [W.int L[0], W.bl true].length ≤ 100000 by simp)]
            rw [show nums [L[0]] ++ [W.bl true] = [W.int L[0], W.bl true] from rfl] at e9
            simp only [ev_bin, ev_cmp, ev_list, ev_tuple, ev_callH, ev_callHK, ev_callP, ev_callPK, ev_blt, ev_sub, ev_neg, ev_not, ev_and, ev_or, ev_isi, ev_int, ev_str, ev_bl, ev_non, ev_var, ev_glob, ev_cel, ev_listJ, ev_meth, ev_sortS, ev_slice, evs_cons, evs_nil, evO_none, evO_some, evC_none, evC_some, evI_ex, evI_range, evI_enum, stillW_tup, srcOf_tup, srcOf_lst, srcOf_new, put_nm, put_tp, putS_cons, putS_nil, wipe_cons, wipe_nil, List.getElem?_cons_succ, List.getElem?_cons_zero, List.set_cons_succ, List.set_cons_zero, bind_ok, noX_ok, ofO_some, fz_int, fz_bl, fz_str, fz_ref, fz_lst, fz_new, fz_tup, fz_scr, fz_non, truth_bl, Bool.not_true, Bool.not_false, bop_add, bop_sub, cop_eq_int, cop_ne_int, cop_lt_int, cop_le_int, cop_gt_int, cop_ge_int, subW, items_tup, items_lst, items_new, items_ref, itemsL_lst, itemsL_new, itemsL_ref, isCell_ref, sat_bind, sat_ok, slice_from (L := L) (j := 2) (v := 2) (show L.length ≤ 400 by omega) rfl, bop_addT (xs := [W.int L[0], W.bl true]) (ys := nums (L.drop 2)) (show [W.int L[0], W.bl true].length + (nums (L.drop 2)).length ≤ 100000 by simp; omega), e9]
            exact sat_nil ⟨_, rfl, h9, _, rfl⟩
  rintro ρ cs7 ⟨h7, o5, rfl⟩
  refine sat_cons (sat_ret ?_)
  simp only [ev_bin, ev_cmp, ev_list, ev_tuple, ev_callH, ev_callHK, ev_callP, ev_callPK, ev_blt, ev_sub, ev_neg, ev_not, ev_and, ev_or, ev_isi, ev_int, ev_str, ev_bl, ev_non, ev_var, ev_glob, ev_cel, ev_listJ, ev_meth, ev_sortS, ev_slice, evs_cons, evs_nil, evO_none, evO_some, evC_none, evC_some, evI_ex, evI_range, evI_enum, stillW_tup, srcOf_tup, srcOf_lst, srcOf_new, put_nm, put_tp, putS_cons, putS_nil, wipe_cons, wipe_nil, List.getElem?_cons_succ, List.getElem?_cons_zero, List.set_cons_succ, List.set_cons_zero, bind_ok, noX_ok, ofO_some, fz_int, fz_bl, fz_str, fz_ref, fz_lst, fz_new, fz_tup, fz_scr, fz_non, truth_bl, Bool.not_true, Bool.not_false, bop_add, bop_sub, cop_eq_int, cop_ne_int, cop_lt_int, cop_le_int, cop_gt_int, cop_ge_int, subW, items_tup, items_lst, items_new, items_ref, itemsL_lst, itemsL_new, itemsL_ref, isCell_ref, sat_bind, sat_ok]
  exact ⟨r, rfl, h7⟩
end K85
end S_K85v

section S_K85w
set_option Elab.async false
set_option linter.all false
set_option maxRecDepth 100000
set_option maxHeartbeats 4000000
/-! K85w: the law. -/
namespace K85
open Mi Ev
variable {Q0 : Fl → List Ob → Prop} {sc : W}
/-- behind ten steps -/
def M10 (sc : W) (ρ : ME) (cs : List Ob) : Prop := ∃ (st kd nm : Int) (n : Nat) (P Q : List (List Int)), n ≤ 40 ∧ Plc P ∧ Plc Q ∧ P.length = n ∧ Q.length = n ∧ Sr cs ∧
  ρ = [some sc, some (.ref 2), some (.int st), some (.int (n : Int)), some (PL P), some (.int kd), some (PL Q), some (.int nm), none, none, none, none, none, none]
theorem fz_PL (P : List (List Int)) : fz (PL P) = PL P := rfl
theorem fz_tP (l : List (Int × Int)) : fz (tP l) = tP l := rfl
theorem at_four {a b c d v : Int} (h0 : 0 ≤ v) (h1 : v < 4) : ∃ x, at? [.int a, .int b, .int c, .int d] v = some (.int x) ∧ (x = a ∨ x = b ∨ x = c ∨ x = d) := by
  have : v = 0 ∨ v = 1 ∨ v = 2 ∨ v = 3 := by omega
  rcases this with rfl | rfl | rfl | rfl
  · exact ⟨a, rfl, .inl rfl⟩
  · exact ⟨b, rfl, .inr (.inl rfl)⟩
  · exact ⟨c, rfl, .inr (.inr (.inl rfl))⟩
  · exact ⟨d, rfl, .inr (.inr (.inr rfl))⟩
theorem at_two {a b v : Int} (h0 : 0 ≤ v) (h1 : v < 2) : ∃ x, at? [.int a, .int b] v = some (.int x) ∧ (x = a ∨ x = b) := by
  have : v = 0 ∨ v = 1 := by omega
  rcases this with rfl | rfl
  · exact ⟨a, rfl, .inl rfl⟩
  · exact ⟨b, rfl, .inr rfl⟩
theorem at_5 {a b c d e v : Int} (h0 : 0 ≤ v) (h1 : v < 5) : ∃ x, at? [.int a, .int b, .int c, .int d, .int e] v = some (.int x) ∧ (x = a ∨ x = b ∨ x = c ∨ x = d ∨ x = e) := by
  have : v = 0 ∨ v = 1 ∨ v = 2 ∨ v = 3 ∨ v = 4 := by omega
  rcases this with rfl | rfl | rfl | rfl | rfl
  · exact ⟨a, rfl, .inl rfl⟩
  · exact ⟨b, rfl, .inr (.inl rfl)⟩
  · exact ⟨c, rfl, .inr (.inr (.inl rfl))⟩
  · exact ⟨d, rfl, .inr (.inr (.inr (.inl rfl)))⟩
  · exact ⟨e, rfl, .inr (.inr (.inr (.inr rfl)))⟩
theorem law_10 (k : Nat) {ns : List Int} (hl : ns.length ≤ 63) (h : ∀ ρ cs, M10 (.scr (nums ns)) ρ cs → Sat (runs (XX.O (k + 12)) (drop 10 b_law) ρ cs) Q0) :
    Sat (runs (XX.O (k + 12)) (drop 0 b_law) [some (.scr (nums ns)), none, none, none, none, none, none, none, none, none, none, none, none, none] []) Q0 := by
  refine step' b_law 0 rfl (sat_set ?_)
  simp only [ev_bin, ev_cmp, ev_list, ev_tuple, ev_callH, ev_callHK, ev_callP, ev_callPK, ev_blt, ev_sub, ev_neg, ev_not, ev_and, ev_or, ev_isi, ev_int, ev_str, ev_bl, ev_non, ev_var, ev_glob, ev_cel, ev_listJ, ev_meth, ev_sortS, ev_slice, evs_cons, evs_nil, evO_none, evO_some, evC_none, evC_some, evI_ex, evI_range, evI_enum, stillW_tup, srcOf_tup, srcOf_lst, srcOf_new, put_nm, put_tp, putS_cons, putS_nil, wipe_cons, wipe_nil, List.getElem?_cons_succ, List.getElem?_cons_zero, List.set_cons_succ, List.set_cons_zero, bind_ok, noX_ok, ofO_some, fz_int, fz_bl, fz_str, fz_ref, fz_lst, fz_new, fz_tup, fz_scr, fz_non, truth_bl, Bool.not_true, Bool.not_false, bop_add, bop_sub, cop_eq_int, cop_ne_int, cop_lt_int, cop_le_int, cop_gt_int, cop_ge_int, subW, items_tup, items_lst, items_new, items_ref, itemsL_lst, itemsL_new, itemsL_ref, isCell_ref, sat_bind, sat_ok]
  refine (Ctx.source at_law_source (k + 11) hl).mono fun w cs1 z => ?_
  obtain ⟨s, A, L, rfl, rfl, h0, h1⟩ := z
  simp only [ev_bin, ev_cmp, ev_list, ev_tuple, ev_callH, ev_callHK, ev_callP, ev_callPK, ev_blt, ev_sub, ev_neg, ev_not, ev_and, ev_or, ev_isi, ev_int, ev_str, ev_bl, ev_non, ev_var, ev_glob, ev_cel, ev_listJ, ev_meth, ev_sortS, ev_slice, evs_cons, evs_nil, evO_none, evO_some, evC_none, evC_some, evI_ex, evI_range, evI_enum, stillW_tup, srcOf_tup, srcOf_lst, srcOf_new, put_nm, put_tp, putS_cons, putS_nil, wipe_cons, wipe_nil, List.getElem?_cons_succ, List.getElem?_cons_zero, List.set_cons_succ, List.set_cons_zero, bind_ok, noX_ok, ofO_some, fz_int, fz_bl, fz_str, fz_ref, fz_lst, fz_new, fz_tup, fz_scr, fz_non, truth_bl, Bool.not_true, Bool.not_false, bop_add, bop_sub, cop_eq_int, cop_ne_int, cop_lt_int, cop_le_int, cop_gt_int, cop_ge_int, subW, items_tup, items_lst, items_new, items_ref, itemsL_lst, itemsL_new, itemsL_ref, isCell_ref, sat_bind, sat_ok, List.length_cons, List.length_nil, List.cons_append, List.nil_append]
  have hs : Sr [.lst A, .lst (nums L), .lst [.int s, .int 0, .ref 1]] := ⟨s, 0, L, rfl, rfl, h0, h1⟩
  generalize [Ob.lst A, .lst (nums L), .lst [.int s, .int 0, .ref 1]] = cs0 at hs ⊢
  clear h0 h1
  refine step b_law 1 rfl (fun ρ cs => ∃ st : Int, 1 ≤ st ∧ st ≤ 8 ∧ Sr cs ∧ ρ = [some (.scr (nums ns)), some (.ref 2), some (.int st), none, none, none, none, none, none, none, none, none, none, none]) ?_ ?_
  · refine sat_set ?_
    simp only [ev_bin, ev_cmp, ev_list, ev_tuple, ev_callH, ev_callHK, ev_callP, ev_callPK, ev_blt, ev_sub, ev_neg, ev_not, ev_and, ev_or, ev_isi, ev_int, ev_str, ev_bl, ev_non, ev_var, ev_glob, ev_cel, ev_listJ, ev_meth, ev_sortS, ev_slice, evs_cons, evs_nil, evO_none, evO_some, evC_none, evC_some, evI_ex, evI_range, evI_enum, stillW_tup, srcOf_tup, srcOf_lst, srcOf_new, put_nm, put_tp, putS_cons, putS_nil, wipe_cons, wipe_nil, List.getElem?_cons_succ, List.getElem?_cons_zero, List.set_cons_succ, List.set_cons_zero, bind_ok, noX_ok, ofO_some, fz_int, fz_bl, fz_str, fz_ref, fz_lst, fz_new, fz_tup, fz_scr, fz_non, truth_bl, Bool.not_true, Bool.not_false, bop_add, bop_sub, cop_eq_int, cop_ne_int, cop_lt_int, cop_le_int, cop_gt_int, cop_ge_int, subW, items_tup, items_lst, items_new, items_ref, itemsL_lst, itemsL_new, itemsL_ref, isCell_ref, sat_bind, sat_ok]
    refine (c_draw (k + 11) hs (by decide) (by decide)).mono fun w ca z => ?_
    obtain ⟨a, rfl, a0, a1, hs, ka⟩ := z
    simp only [ev_bin, ev_cmp, ev_list, ev_tuple, ev_callH, ev_callHK, ev_callP, ev_callPK, ev_blt, ev_sub, ev_neg, ev_not, ev_and, ev_or, ev_isi, ev_int, ev_str, ev_bl, ev_non, ev_var, ev_glob, ev_cel, ev_listJ, ev_meth, ev_sortS, ev_slice, evs_cons, evs_nil, evO_none, evO_some, evC_none, evC_some, evI_ex, evI_range, evI_enum, stillW_tup, srcOf_tup, srcOf_lst, srcOf_new, put_nm, put_tp, putS_cons, putS_nil, wipe_cons, wipe_nil, List.getElem?_cons_succ, List.getElem?_cons_zero, List.set_cons_succ, List.set_cons_zero, bind_ok, noX_ok, ofO_some, fz_int, fz_bl, fz_str, fz_ref, fz_lst, fz_new, fz_tup, fz_scr, fz_non, truth_bl, Bool.not_true, Bool.not_false, bop_add, bop_sub, cop_eq_int, cop_ne_int, cop_lt_int, cop_le_int, cop_gt_int, cop_ge_int, subW, items_tup, items_lst, items_new, items_ref, itemsL_lst, itemsL_new, itemsL_ref, isCell_ref, sat_bind, sat_ok]
    rw [mkNew_ok (by simp)]
    simp only [ev_bin, ev_cmp, ev_list, ev_tuple, ev_callH, ev_callHK, ev_callP, ev_callPK, ev_blt, ev_sub, ev_neg, ev_not, ev_and, ev_or, ev_isi, ev_int, ev_str, ev_bl, ev_non, ev_var, ev_glob, ev_cel, ev_listJ, ev_meth, ev_sortS, ev_slice, evs_cons, evs_nil, evO_none, evO_some, evC_none, evC_some, evI_ex, evI_range, evI_enum, stillW_tup, srcOf_tup, srcOf_lst, srcOf_new, put_nm, put_tp, putS_cons, putS_nil, wipe_cons, wipe_nil, List.getElem?_cons_succ, List.getElem?_cons_zero, List.set_cons_succ, List.set_cons_zero, bind_ok, noX_ok, ofO_some, fz_int, fz_bl, fz_str, fz_ref, fz_lst, fz_new, fz_tup, fz_scr, fz_non, truth_bl, Bool.not_true, Bool.not_false, bop_add, bop_sub, cop_eq_int, cop_ne_int, cop_lt_int, cop_le_int, cop_gt_int, cop_ge_int, subW, items_tup, items_lst, items_new, items_ref, itemsL_lst, itemsL_new, itemsL_ref, isCell_ref, sat_bind, sat_ok]
    refine (c_draw (k + 11) hs (by decide) (by decide)).mono fun w cb z => ?_
    obtain ⟨b, rfl, b0, b1, hs, kb⟩ := z
    obtain ⟨x, e1, hx⟩ := at_two (a := 8) (b := 1 + a) b0 b1
    simp only [ev_bin, ev_cmp, ev_list, ev_tuple, ev_callH, ev_callHK, ev_callP, ev_callPK, ev_blt, ev_sub, ev_neg, ev_not, ev_and, ev_or, ev_isi, ev_int, ev_str, ev_bl, ev_non, ev_var, ev_glob, ev_cel, ev_listJ, ev_meth, ev_sortS, ev_slice, evs_cons, evs_nil, evO_none, evO_some, evC_none, evC_some, evI_ex, evI_range, evI_enum, stillW_tup, srcOf_tup, srcOf_lst, srcOf_new, put_nm, put_tp, putS_cons, putS_nil, wipe_cons, wipe_nil, List.getElem?_cons_succ, List.getElem?_cons_zero, List.set_cons_succ, List.set_cons_zero, bind_ok, noX_ok, ofO_some, fz_int, fz_bl, fz_str, fz_ref, fz_lst, fz_new, fz_tup, fz_scr, fz_non, truth_bl, Bool.not_true, Bool.not_false, bop_add, bop_sub, cop_eq_int, cop_ne_int, cop_lt_int, cop_le_int, cop_gt_int, cop_ge_int, subW, items_tup, items_lst, items_new, items_ref, itemsL_lst, itemsL_new, itemsL_ref, isCell_ref, sat_bind, sat_ok, e1]
    exact ⟨_, rfl, x, by omega, by omega, hs, rfl⟩
  rintro ρ cs1 ⟨st, s1, s8, hs, rfl⟩
  refine step b_law 2 rfl (fun ρ cs => ∃ n : Nat, n ≤ 40 ∧ Sr cs ∧ ρ = [some (.scr (nums ns)), some (.ref 2), some (.int st), some (.int (n : Int)), none, none, none, none, none, none, none, none, none, none]) ?_ ?_
  · refine sat_set ?_
    simp only [ev_bin, ev_cmp, ev_list, ev_tuple, ev_callH, ev_callHK, ev_callP, ev_callPK, ev_blt, ev_sub, ev_neg, ev_not, ev_and, ev_or, ev_isi, ev_int, ev_str, ev_bl, ev_non, ev_var, ev_glob, ev_cel, ev_listJ, ev_meth, ev_sortS, ev_slice, evs_cons, evs_nil, evO_none, evO_some, evC_none, evC_some, evI_ex, evI_range, evI_enum, stillW_tup, srcOf_tup, srcOf_lst, srcOf_new, put_nm, put_tp, putS_cons, putS_nil, wipe_cons, wipe_nil, List.getElem?_cons_succ, List.getElem?_cons_zero, List.set_cons_succ, List.set_cons_zero, bind_ok, noX_ok, ofO_some, fz_int, fz_bl, fz_str, fz_ref, fz_lst, fz_new, fz_tup, fz_scr, fz_non, truth_bl, Bool.not_true, Bool.not_false, bop_add, bop_sub, cop_eq_int, cop_ne_int, cop_lt_int, cop_le_int, cop_gt_int, cop_ge_int, subW, items_tup, items_lst, items_new, items_ref, itemsL_lst, itemsL_new, itemsL_ref, isCell_ref, sat_bind, sat_ok]
    refine (c_draw (k + 11) hs (by decide) (by decide)).mono fun w ca z => ?_
    obtain ⟨a, rfl, a0, a1, hs, ka⟩ := z
    simp only [ev_bin, ev_cmp, ev_list, ev_tuple, ev_callH, ev_callHK, ev_callP, ev_callPK, ev_blt, ev_sub, ev_neg, ev_not, ev_and, ev_or, ev_isi, ev_int, ev_str, ev_bl, ev_non, ev_var, ev_glob, ev_cel, ev_listJ, ev_meth, ev_sortS, ev_slice, evs_cons, evs_nil, evO_none, evO_some, evC_none, evC_some, evI_ex, evI_range, evI_enum, stillW_tup, srcOf_tup, srcOf_lst, srcOf_new, put_nm, put_tp, putS_cons, putS_nil, wipe_cons, wipe_nil, List.getElem?_cons_succ, List.getElem?_cons_zero, List.set_cons_succ, List.set_cons_zero, bind_ok, noX_ok, ofO_some, fz_int, fz_bl, fz_str, fz_ref, fz_lst, fz_new, fz_tup, fz_scr, fz_non, truth_bl, Bool.not_true, Bool.not_false, bop_add, bop_sub, cop_eq_int, cop_ne_int, cop_lt_int, cop_le_int, cop_gt_int, cop_ge_int, subW, items_tup, items_lst, items_new, items_ref, itemsL_lst, itemsL_new, itemsL_ref, isCell_ref, sat_bind, sat_ok]
    refine (c_draw (k + 11) hs (by decide) (by decide)).mono fun w cb z => ?_
    obtain ⟨b, rfl, b0, b1, hs, kb⟩ := z
    simp only [ev_bin, ev_cmp, ev_list, ev_tuple, ev_callH, ev_callHK, ev_callP, ev_callPK, ev_blt, ev_sub, ev_neg, ev_not, ev_and, ev_or, ev_isi, ev_int, ev_str, ev_bl, ev_non, ev_var, ev_glob, ev_cel, ev_listJ, ev_meth, ev_sortS, ev_slice, evs_cons, evs_nil, evO_none, evO_some, evC_none, evC_some, evI_ex, evI_range, evI_enum, stillW_tup, srcOf_tup, srcOf_lst, srcOf_new, put_nm, put_tp, putS_cons, putS_nil, wipe_cons, wipe_nil, List.getElem?_cons_succ, List.getElem?_cons_zero, List.set_cons_succ, List.set_cons_zero, bind_ok, noX_ok, ofO_some, fz_int, fz_bl, fz_str, fz_ref, fz_lst, fz_new, fz_tup, fz_scr, fz_non, truth_bl, Bool.not_true, Bool.not_false, bop_add, bop_sub, cop_eq_int, cop_ne_int, cop_lt_int, cop_le_int, cop_gt_int, cop_ge_int, subW, items_tup, items_lst, items_new, items_ref, itemsL_lst, itemsL_new, itemsL_ref, isCell_ref, sat_bind, sat_ok]
    refine (c_draw (k + 11) hs (by decide) (by decide)).mono fun w cc z => ?_
    obtain ⟨c, rfl, c0, c1, hs, kc⟩ := z
    simp only [ev_bin, ev_cmp, ev_list, ev_tuple, ev_callH, ev_callHK, ev_callP, ev_callPK, ev_blt, ev_sub, ev_neg, ev_not, ev_and, ev_or, ev_isi, ev_int, ev_str, ev_bl, ev_non, ev_var, ev_glob, ev_cel, ev_listJ, ev_meth, ev_sortS, ev_slice, evs_cons, evs_nil, evO_none, evO_some, evC_none, evC_some, evI_ex, evI_range, evI_enum, stillW_tup, srcOf_tup, srcOf_lst, srcOf_new, put_nm, put_tp, putS_cons, putS_nil, wipe_cons, wipe_nil, List.getElem?_cons_succ, List.getElem?_cons_zero, List.set_cons_succ, List.set_cons_zero, bind_ok, noX_ok, ofO_some, fz_int, fz_bl, fz_str, fz_ref, fz_lst, fz_new, fz_tup, fz_scr, fz_non, truth_bl, Bool.not_true, Bool.not_false, bop_add, bop_sub, cop_eq_int, cop_ne_int, cop_lt_int, cop_le_int, cop_gt_int, cop_ge_int, subW, items_tup, items_lst, items_new, items_ref, itemsL_lst, itemsL_new, itemsL_ref, isCell_ref, sat_bind, sat_ok]
    rw [mkNew_ok (by simp)]
    simp only [ev_bin, ev_cmp, ev_list, ev_tuple, ev_callH, ev_callHK, ev_callP, ev_callPK, ev_blt, ev_sub, ev_neg, ev_not, ev_and, ev_or, ev_isi, ev_int, ev_str, ev_bl, ev_non, ev_var, ev_glob, ev_cel, ev_listJ, ev_meth, ev_sortS, ev_slice, evs_cons, evs_nil, evO_none, evO_some, evC_none, evC_some, evI_ex, evI_range, evI_enum, stillW_tup, srcOf_tup, srcOf_lst, srcOf_new, put_nm, put_tp, putS_cons, putS_nil, wipe_cons, wipe_nil, List.getElem?_cons_succ, List.getElem?_cons_zero, List.set_cons_succ, List.set_cons_zero, bind_ok, noX_ok, ofO_some, fz_int, fz_bl, fz_str, fz_ref, fz_lst, fz_new, fz_tup, fz_scr, fz_non, truth_bl, Bool.not_true, Bool.not_false, bop_add, bop_sub, cop_eq_int, cop_ne_int, cop_lt_int, cop_le_int, cop_gt_int, cop_ge_int, subW, items_tup, items_lst, items_new, items_ref, itemsL_lst, itemsL_new, itemsL_ref, isCell_ref, sat_bind, sat_ok]
    refine (c_draw (k + 11) hs (by decide) (by decide)).mono fun w cd z => ?_
    obtain ⟨d, rfl, d0, d1, hs, kd⟩ := z
    obtain ⟨x, e1, hx⟩ := at_four (a := a) (b := 40) (c := 1 + b) (d := 5 + c) d0 d1
    obtain ⟨n, rfl⟩ : ∃ m : Nat, x = m := ⟨x.toNat, by omega⟩
    simp only [ev_bin, ev_cmp, ev_list, ev_tuple, ev_callH, ev_callHK, ev_callP, ev_callPK, ev_blt, ev_sub, ev_neg, ev_not, ev_and, ev_or, ev_isi, ev_int, ev_str, ev_bl, ev_non, ev_var, ev_glob, ev_cel, ev_listJ, ev_meth, ev_sortS, ev_slice, evs_cons, evs_nil, evO_none, evO_some, evC_none, evC_some, evI_ex, evI_range, evI_enum, stillW_tup, srcOf_tup, srcOf_lst, srcOf_new, put_nm, put_tp, putS_cons, putS_nil, wipe_cons, wipe_nil, List.getElem?_cons_succ, List.getElem?_cons_zero, List.set_cons_succ, List.set_cons_zero, bind_ok, noX_ok, ofO_some, fz_int, fz_bl, fz_str, fz_ref, fz_lst, fz_new, fz_tup, fz_scr, fz_non, truth_bl, Bool.not_true, Bool.not_false, bop_add, bop_sub, cop_eq_int, cop_ne_int, cop_lt_int, cop_le_int, cop_gt_int, cop_ge_int, subW, items_tup, items_lst, items_new, items_ref, itemsL_lst, itemsL_new, itemsL_ref, isCell_ref, sat_bind, sat_ok, e1]
    exact ⟨_, rfl, n, by omega, hs, rfl⟩
  rintro ρ cs2 ⟨n, hn, hs, rfl⟩
  refine step b_law 3 rfl (fun ρ cs => ∃ P, Plc P ∧ P.length = n ∧ Sr cs ∧ ρ = [some (.scr (nums ns)), some (.ref 2), some (.int st), some (.int (n : Int)), some (PL P), none, none, none, none, none, none, none, none, none]) ?_ ?_
  · refine sat_set ?_
    simp only [ev_bin, ev_cmp, ev_list, ev_tuple, ev_callH, ev_callHK, ev_callP, ev_callPK, ev_blt, ev_sub, ev_neg, ev_not, ev_and, ev_or, ev_isi, ev_int, ev_str, ev_bl, ev_non, ev_var, ev_glob, ev_cel, ev_listJ, ev_meth, ev_sortS, ev_slice, evs_cons, evs_nil, evO_none, evO_some, evC_none, evC_some, evI_ex, evI_range, evI_enum, stillW_tup, srcOf_tup, srcOf_lst, srcOf_new, put_nm, put_tp, putS_cons, putS_nil, wipe_cons, wipe_nil, List.getElem?_cons_succ, List.getElem?_cons_zero, List.set_cons_succ, List.set_cons_zero, bind_ok, noX_ok, ofO_some, fz_int, fz_bl, fz_str, fz_ref, fz_lst, fz_new, fz_tup, fz_scr, fz_non, truth_bl, Bool.not_true, Bool.not_false, bop_add, bop_sub, cop_eq_int, cop_ne_int, cop_lt_int, cop_le_int, cop_gt_int, cop_ge_int, subW, items_tup, items_lst, items_new, items_ref, itemsL_lst, itemsL_new, itemsL_ref, isCell_ref, sat_bind, sat_ok]
    refine (c_draw (k + 11) hs (by decide) (by decide)).mono fun w ca z => ?_
    obtain ⟨a, rfl, a0, a1, hs, ka⟩ := z
    simp only [ev_bin, ev_cmp, ev_list, ev_tuple, ev_callH, ev_callHK, ev_callP, ev_callPK, ev_blt, ev_sub, ev_neg, ev_not, ev_and, ev_or, ev_isi, ev_int, ev_str, ev_bl, ev_non, ev_var, ev_glob, ev_cel, ev_listJ, ev_meth, ev_sortS, ev_slice, evs_cons, evs_nil, evO_none, evO_some, evC_none, evC_some, evI_ex, evI_range, evI_enum, stillW_tup, srcOf_tup, srcOf_lst, srcOf_new, put_nm, put_tp, putS_cons, putS_nil, wipe_cons, wipe_nil, List.getElem?_cons_succ, List.getElem?_cons_zero, List.set_cons_succ, List.set_cons_zero, bind_ok, noX_ok, ofO_some, fz_int, fz_bl, fz_str, fz_ref, fz_lst, fz_new, fz_tup, fz_scr, fz_non, truth_bl, Bool.not_true, Bool.not_false, bop_add, bop_sub, cop_eq_int, cop_ne_int, cop_lt_int, cop_le_int, cop_gt_int, cop_ge_int, subW, items_tup, items_lst, items_new, items_ref, itemsL_lst, itemsL_new, itemsL_ref, isCell_ref, sat_bind, sat_ok]
    refine (c_lots (k + 10) s1 s8 hn hs).mono fun w cb z => ?_
    obtain ⟨P, rfl, hP, hPn, hs, _⟩ := z
    simp only [ev_bin, ev_cmp, ev_list, ev_tuple, ev_callH, ev_callHK, ev_callP, ev_callPK, ev_blt, ev_sub, ev_neg, ev_not, ev_and, ev_or, ev_isi, ev_int, ev_str, ev_bl, ev_non, ev_var, ev_glob, ev_cel, ev_listJ, ev_meth, ev_sortS, ev_slice, evs_cons, evs_nil, evO_none, evO_some, evC_none, evC_some, evI_ex, evI_range, evI_enum, stillW_tup, srcOf_tup, srcOf_lst, srcOf_new, put_nm, put_tp, putS_cons, putS_nil, wipe_cons, wipe_nil, List.getElem?_cons_succ, List.getElem?_cons_zero, List.set_cons_succ, List.set_cons_zero, bind_ok, noX_ok, ofO_some, fz_int, fz_bl, fz_str, fz_ref, fz_lst, fz_new, fz_tup, fz_scr, fz_non, truth_bl, Bool.not_true, Bool.not_false, bop_add, bop_sub, cop_eq_int, cop_ne_int, cop_lt_int, cop_le_int, cop_gt_int, cop_ge_int, subW, items_tup, items_lst, items_new, items_ref, itemsL_lst, itemsL_new, itemsL_ref, isCell_ref, sat_bind, sat_ok, fz_PL]
    exact ⟨_, rfl, P, hP, hPn, hs, rfl⟩
  rintro ρ cs3 ⟨P, hP, hPn, hs, rfl⟩
  refine step b_law 4 rfl (fun ρ cs => ∃ kd, Sr cs ∧ ρ = [some (.scr (nums ns)), some (.ref 2), some (.int st), some (.int (n : Int)), some (PL P), some (.int kd), none, none, none, none, none, none, none, none]) ?_ ?_
  · refine sat_set ?_
    simp only [ev_bin, ev_cmp, ev_list, ev_tuple, ev_callH, ev_callHK, ev_callP, ev_callPK, ev_blt, ev_sub, ev_neg, ev_not, ev_and, ev_or, ev_isi, ev_int, ev_str, ev_bl, ev_non, ev_var, ev_glob, ev_cel, ev_listJ, ev_meth, ev_sortS, ev_slice, evs_cons, evs_nil, evO_none, evO_some, evC_none, evC_some, evI_ex, evI_range, evI_enum, stillW_tup, srcOf_tup, srcOf_lst, srcOf_new, put_nm, put_tp, putS_cons, putS_nil, wipe_cons, wipe_nil, List.getElem?_cons_succ, List.getElem?_cons_zero, List.set_cons_succ, List.set_cons_zero, bind_ok, noX_ok, ofO_some, fz_int, fz_bl, fz_str, fz_ref, fz_lst, fz_new, fz_tup, fz_scr, fz_non, truth_bl, Bool.not_true, Bool.not_false, bop_add, bop_sub, cop_eq_int, cop_ne_int, cop_lt_int, cop_le_int, cop_gt_int, cop_ge_int, subW, items_tup, items_lst, items_new, items_ref, itemsL_lst, itemsL_new, itemsL_ref, isCell_ref, sat_bind, sat_ok]
    refine (c_draw (k + 11) hs (by decide) (by decide)).mono fun w ca z => ?_
    obtain ⟨a, rfl, a0, a1, hs, ka⟩ := z
    simp only [ev_bin, ev_cmp, ev_list, ev_tuple, ev_callH, ev_callHK, ev_callP, ev_callPK, ev_blt, ev_sub, ev_neg, ev_not, ev_and, ev_or, ev_isi, ev_int, ev_str, ev_bl, ev_non, ev_var, ev_glob, ev_cel, ev_listJ, ev_meth, ev_sortS, ev_slice, evs_cons, evs_nil, evO_none, evO_some, evC_none, evC_some, evI_ex, evI_range, evI_enum, stillW_tup, srcOf_tup, srcOf_lst, srcOf_new, put_nm, put_tp, putS_cons, putS_nil, wipe_cons, wipe_nil, List.getElem?_cons_succ, List.getElem?_cons_zero, List.set_cons_succ, List.set_cons_zero, bind_ok, noX_ok, ofO_some, fz_int, fz_bl, fz_str, fz_ref, fz_lst, fz_new, fz_tup, fz_scr, fz_non, truth_bl, Bool.not_true, Bool.not_false, bop_add, bop_sub, cop_eq_int, cop_ne_int, cop_lt_int, cop_le_int, cop_gt_int, cop_ge_int, subW, items_tup, items_lst, items_new, items_ref, itemsL_lst, itemsL_new, itemsL_ref, isCell_ref, sat_bind, sat_ok]
    exact ⟨_, rfl, a, hs, rfl⟩
  rintro ρ cs4 ⟨kd, hs, rfl⟩
  refine step' b_law 5 rfl (sat_set ?_)
  simp only [ev_bin, ev_cmp, ev_list, ev_tuple, ev_callH, ev_callHK, ev_callP, ev_callPK, ev_blt, ev_sub, ev_neg, ev_not, ev_and, ev_or, ev_isi, ev_int, ev_str, ev_bl, ev_non, ev_var, ev_glob, ev_cel, ev_listJ, ev_meth, ev_sortS, ev_slice, evs_cons, evs_nil, evO_none, evO_some, evC_none, evC_some, evI_ex, evI_range, evI_enum, stillW_tup, srcOf_tup, srcOf_lst, srcOf_new, put_nm, put_tp, putS_cons, putS_nil, wipe_cons, wipe_nil, List.getElem?_cons_succ, List.getElem?_cons_zero, List.set_cons_succ, List.set_cons_zero, bind_ok, noX_ok, ofO_some, fz_int, fz_bl, fz_str, fz_ref, fz_lst, fz_new, fz_tup, fz_scr, fz_non, truth_bl, Bool.not_true, Bool.not_false, bop_add, bop_sub, cop_eq_int, cop_ne_int, cop_lt_int, cop_le_int, cop_gt_int, cop_ge_int, subW, items_tup, items_lst, items_new, items_ref, itemsL_lst, itemsL_new, itemsL_ref, isCell_ref, sat_bind, sat_ok, fz_PL]
  refine step b_law 6 rfl (fun ρ cs => ∃ Q, Plc Q ∧ Q.length = n ∧ Sr cs ∧ ρ = [some (.scr (nums ns)), some (.ref 2), some (.int st), some (.int (n : Int)), some (PL P), some (.int kd), some (PL Q), none, none, none, none, none, none, none]) ?_ ?_
  · refine sat_if ?_
    simp only [ev_bin, ev_cmp, ev_list, ev_tuple, ev_callH, ev_callHK, ev_callP, ev_callPK, ev_blt, ev_sub, ev_neg, ev_not, ev_and, ev_or, ev_isi, ev_int, ev_str, ev_bl, ev_non, ev_var, ev_glob, ev_cel, ev_listJ, ev_meth, ev_sortS, ev_slice, evs_cons, evs_nil, evO_none, evO_some, evC_none, evC_some, evI_ex, evI_range, evI_enum, stillW_tup, srcOf_tup, srcOf_lst, srcOf_new, put_nm, put_tp, putS_cons, putS_nil, wipe_cons, wipe_nil, List.getElem?_cons_succ, List.getElem?_cons_zero, List.set_cons_succ, List.set_cons_zero, bind_ok, noX_ok, ofO_some, fz_int, fz_bl, fz_str, fz_ref, fz_lst, fz_new, fz_tup, fz_scr, fz_non, truth_bl, Bool.not_true, Bool.not_false, bop_add, bop_sub, cop_eq_int, cop_ne_int, cop_lt_int, cop_le_int, cop_gt_int, cop_ge_int, subW, items_tup, items_lst, items_new, items_ref, itemsL_lst, itemsL_new, itemsL_ref, isCell_ref, sat_bind, sat_ok]
    cases kd == 1 with
    | false => exact sat_nil ⟨_, rfl, P, hP, hPn, hs, rfl⟩
    | true =>
        refine sat_cons (sat_set ?_)
        simp only [ev_bin, ev_cmp, ev_list, ev_tuple, ev_callH, ev_callHK, ev_callP, ev_callPK, ev_blt, ev_sub, ev_neg, ev_not, ev_and, ev_or, ev_isi, ev_int, ev_str, ev_bl, ev_non, ev_var, ev_glob, ev_cel, ev_listJ, ev_meth, ev_sortS, ev_slice, evs_cons, evs_nil, evO_none, evO_some, evC_none, evC_some, evI_ex, evI_range, evI_enum, stillW_tup, srcOf_tup, srcOf_lst, srcOf_new, put_nm, put_tp, putS_cons, putS_nil, wipe_cons, wipe_nil, List.getElem?_cons_succ, List.getElem?_cons_zero, List.set_cons_succ, List.set_cons_zero, bind_ok, noX_ok, ofO_some, fz_int, fz_bl, fz_str, fz_ref, fz_lst, fz_new, fz_tup, fz_scr, fz_non, truth_bl, Bool.not_true, Bool.not_false, bop_add, bop_sub, cop_eq_int, cop_ne_int, cop_lt_int, cop_le_int, cop_gt_int, cop_ge_int, subW, items_tup, items_lst, items_new, items_ref, itemsL_lst, itemsL_new, itemsL_ref, isCell_ref, sat_bind, sat_ok]
        refine (c_draw (k + 11) hs (by decide) (by decide)).mono fun w ca z => ?_
        obtain ⟨a, rfl, a0, a1, hs, ka⟩ := z
        simp only [ev_bin, ev_cmp, ev_list, ev_tuple, ev_callH, ev_callHK, ev_callP, ev_callPK, ev_blt, ev_sub, ev_neg, ev_not, ev_and, ev_or, ev_isi, ev_int, ev_str, ev_bl, ev_non, ev_var, ev_glob, ev_cel, ev_listJ, ev_meth, ev_sortS, ev_slice, evs_cons, evs_nil, evO_none, evO_some, evC_none, evC_some, evI_ex, evI_range, evI_enum, stillW_tup, srcOf_tup, srcOf_lst, srcOf_new, put_nm, put_tp, putS_cons, putS_nil, wipe_cons, wipe_nil, List.getElem?_cons_succ, List.getElem?_cons_zero, List.set_cons_succ, List.set_cons_zero, bind_ok, noX_ok, ofO_some, fz_int, fz_bl, fz_str, fz_ref, fz_lst, fz_new, fz_tup, fz_scr, fz_non, truth_bl, Bool.not_true, Bool.not_false, bop_add, bop_sub, cop_eq_int, cop_ne_int, cop_lt_int, cop_le_int, cop_gt_int, cop_ge_int, subW, items_tup, items_lst, items_new, items_ref, itemsL_lst, itemsL_new, itemsL_ref, isCell_ref, sat_bind, sat_ok]
        refine (c_lots (k + 10) s1 s8 hn hs).mono fun w cb z => ?_
        obtain ⟨Q, rfl, hQ, hQn, hs, _⟩ := z
        simp only [ev_bin, ev_cmp, ev_list, ev_tuple, ev_callH, ev_callHK, ev_callP, ev_callPK, ev_blt, ev_sub, ev_neg, ev_not, ev_and, ev_or, ev_isi, ev_int, ev_str, ev_bl, ev_non, ev_var, ev_glob, ev_cel, ev_listJ, ev_meth, ev_sortS, ev_slice, evs_cons, evs_nil, evO_none, evO_some, evC_none, evC_some, evI_ex, evI_range, evI_enum, stillW_tup, srcOf_tup, srcOf_lst, srcOf_new, put_nm, put_tp, putS_cons, putS_nil, wipe_cons, wipe_nil, List.getElem?_cons_succ, List.getElem?_cons_zero, List.set_cons_succ, List.set_cons_zero, bind_ok, noX_ok, ofO_some, fz_int, fz_bl, fz_str, fz_ref, fz_lst, fz_new, fz_tup, fz_scr, fz_non, truth_bl, Bool.not_true, Bool.not_false, bop_add, bop_sub, cop_eq_int, cop_ne_int, cop_lt_int, cop_le_int, cop_gt_int, cop_ge_int, subW, items_tup, items_lst, items_new, items_ref, itemsL_lst, itemsL_new, itemsL_ref, isCell_ref, sat_bind, sat_ok, fz_PL]
        exact sat_nil ⟨_, rfl, Q, hQ, hQn, hs, rfl⟩
  rintro ρ cs5 ⟨Q, hQ, hQn, hs, rfl⟩
  refine step b_law 7 rfl (fun ρ cs => ∃ Q, Plc Q ∧ Q.length = n ∧ Sr cs ∧ ρ = [some (.scr (nums ns)), some (.ref 2), some (.int st), some (.int (n : Int)), some (PL P), some (.int kd), some (PL Q), none, none, none, none, none, none, none]) ?_ ?_
  · refine sat_if ?_
    simp only [ev_bin, ev_cmp, ev_list, ev_tuple, ev_callH, ev_callHK, ev_callP, ev_callPK, ev_blt, ev_sub, ev_neg, ev_not, ev_and, ev_or, ev_isi, ev_int, ev_str, ev_bl, ev_non, ev_var, ev_glob, ev_cel, ev_listJ, ev_meth, ev_sortS, ev_slice, evs_cons, evs_nil, evO_none, evO_some, evC_none, evC_some, evI_ex, evI_range, evI_enum, stillW_tup, srcOf_tup, srcOf_lst, srcOf_new, put_nm, put_tp, putS_cons, putS_nil, wipe_cons, wipe_nil, List.getElem?_cons_succ, List.getElem?_cons_zero, List.set_cons_succ, List.set_cons_zero, bind_ok, noX_ok, ofO_some, fz_int, fz_bl, fz_str, fz_ref, fz_lst, fz_new, fz_tup, fz_scr, fz_non, truth_bl, Bool.not_true, Bool.not_false, bop_add, bop_sub, cop_eq_int, cop_ne_int, cop_lt_int, cop_le_int, cop_gt_int, cop_ge_int, subW, items_tup, items_lst, items_new, items_ref, itemsL_lst, itemsL_new, itemsL_ref, isCell_ref, sat_bind, sat_ok]
    cases decide ((2 : Int) ≤ kd) with
    | false => exact sat_nil ⟨_, rfl, Q, hQ, hQn, hs, rfl⟩
    | true =>
        refine sat_cons (sat_set ?_)
        simp only [ev_bin, ev_cmp, ev_list, ev_tuple, ev_callH, ev_callHK, ev_callP, ev_callPK, ev_blt, ev_sub, ev_neg, ev_not, ev_and, ev_or, ev_isi, ev_int, ev_str, ev_bl, ev_non, ev_var, ev_glob, ev_cel, ev_listJ, ev_meth, ev_sortS, ev_slice, evs_cons, evs_nil, evO_none, evO_some, evC_none, evC_some, evI_ex, evI_range, evI_enum, stillW_tup, srcOf_tup, srcOf_lst, srcOf_new, put_nm, put_tp, putS_cons, putS_nil, wipe_cons, wipe_nil, List.getElem?_cons_succ, List.getElem?_cons_zero, List.set_cons_succ, List.set_cons_zero, bind_ok, noX_ok, ofO_some, fz_int, fz_bl, fz_str, fz_ref, fz_lst, fz_new, fz_tup, fz_scr, fz_non, truth_bl, Bool.not_true, Bool.not_false, bop_add, bop_sub, cop_eq_int, cop_ne_int, cop_lt_int, cop_le_int, cop_gt_int, cop_ge_int, subW, items_tup, items_lst, items_new, items_ref, itemsL_lst, itemsL_new, itemsL_ref, isCell_ref, sat_bind, sat_ok, fz_PL]
        refine (c_draw (k + 11) hs (by decide) (by decide)).mono fun w ca z => ?_
        obtain ⟨a, rfl, a0, a1, hs, ka⟩ := z
        obtain ⟨m, hm⟩ : ∃ m : Nat, 1 + a = (m : Int) := ⟨(1 + a).toNat, by omega⟩
        simp only [ev_bin, ev_cmp, ev_list, ev_tuple, ev_callH, ev_callHK, ev_callP, ev_callPK, ev_blt, ev_sub, ev_neg, ev_not, ev_and, ev_or, ev_isi, ev_int, ev_str, ev_bl, ev_non, ev_var, ev_glob, ev_cel, ev_listJ, ev_meth, ev_sortS, ev_slice, evs_cons, evs_nil, evO_none, evO_some, evC_none, evC_some, evI_ex, evI_range, evI_enum, stillW_tup, srcOf_tup, srcOf_lst, srcOf_new, put_nm, put_tp, putS_cons, putS_nil, wipe_cons, wipe_nil, List.getElem?_cons_succ, List.getElem?_cons_zero, List.set_cons_succ, List.set_cons_zero, bind_ok, noX_ok, ofO_some, fz_int, fz_bl, fz_str, fz_ref, fz_lst, fz_new, fz_tup, fz_scr, fz_non, truth_bl, Bool.not_true, Bool.not_false, bop_add, bop_sub, cop_eq_int, cop_ne_int, cop_lt_int, cop_le_int, cop_gt_int, cop_ge_int, subW, items_tup, items_lst, items_new, items_ref, itemsL_lst, itemsL_new, itemsL_ref, isCell_ref, sat_bind, sat_ok, hm]
        refine (c_changed (k + 10) (m := m) s1 s8 hP (by omega) (by omega) hs).mono fun w cb z => ?_
        obtain ⟨Q, rfl, hQ, hQn, hs, _⟩ := z
        simp only [ev_bin, ev_cmp, ev_list, ev_tuple, ev_callH, ev_callHK, ev_callP, ev_callPK, ev_blt, ev_sub, ev_neg, ev_not, ev_and, ev_or, ev_isi, ev_int, ev_str, ev_bl, ev_non, ev_var, ev_glob, ev_cel, ev_listJ, ev_meth, ev_sortS, ev_slice, evs_cons, evs_nil, evO_none, evO_some, evC_none, evC_some, evI_ex, evI_range, evI_enum, stillW_tup, srcOf_tup, srcOf_lst, srcOf_new, put_nm, put_tp, putS_cons, putS_nil, wipe_cons, wipe_nil, List.getElem?_cons_succ, List.getElem?_cons_zero, List.set_cons_succ, List.set_cons_zero, bind_ok, noX_ok, ofO_some, fz_int, fz_bl, fz_str, fz_ref, fz_lst, fz_new, fz_tup, fz_scr, fz_non, truth_bl, Bool.not_true, Bool.not_false, bop_add, bop_sub, cop_eq_int, cop_ne_int, cop_lt_int, cop_le_int, cop_gt_int, cop_ge_int, subW, items_tup, items_lst, items_new, items_ref, itemsL_lst, itemsL_new, itemsL_ref, isCell_ref, sat_bind, sat_ok, fz_PL]
        exact sat_nil ⟨_, rfl, Q, hQ, by omega, hs, rfl⟩
  clear hQ hQn
  rintro ρ cs6 ⟨Q, hQ, hQn, hs, rfl⟩
  refine step b_law 8 rfl (fun ρ cs => ∃ P Q, Plc P ∧ P.length = n ∧ Plc Q ∧ Q.length = n ∧ Sr cs ∧ ρ = [some (.scr (nums ns)), some (.ref 2), some (.int st), some (.int (n : Int)), some (PL P), some (.int kd), some (PL Q), none, none, none, none, none, none, none]) ?_ ?_
  · refine sat_if ?_
    simp only [ev_bin, ev_cmp, ev_list, ev_tuple, ev_callH, ev_callHK, ev_callP, ev_callPK, ev_blt, ev_sub, ev_neg, ev_not, ev_and, ev_or, ev_isi, ev_int, ev_str, ev_bl, ev_non, ev_var, ev_glob, ev_cel, ev_listJ, ev_meth, ev_sortS, ev_slice, evs_cons, evs_nil, evO_none, evO_some, evC_none, evC_some, evI_ex, evI_range, evI_enum, stillW_tup, srcOf_tup, srcOf_lst, srcOf_new, put_nm, put_tp, putS_cons, putS_nil, wipe_cons, wipe_nil, List.getElem?_cons_succ, List.getElem?_cons_zero, List.set_cons_succ, List.set_cons_zero, bind_ok, noX_ok, ofO_some, fz_int, fz_bl, fz_str, fz_ref, fz_lst, fz_new, fz_tup, fz_scr, fz_non, truth_bl, Bool.not_true, Bool.not_false, bop_add, bop_sub, cop_eq_int, cop_ne_int, cop_lt_int, cop_le_int, cop_gt_int, cop_ge_int, subW, items_tup, items_lst, items_new, items_ref, itemsL_lst, itemsL_new, itemsL_ref, isCell_ref, sat_bind, sat_ok]
    refine (c_draw (k + 11) hs (by decide) (by decide)).mono fun w ca z => ?_
    obtain ⟨a, rfl, a0, a1, hs, ka⟩ := z
    simp only [ev_bin, ev_cmp, ev_list, ev_tuple, ev_callH, ev_callHK, ev_callP, ev_callPK, ev_blt, ev_sub, ev_neg, ev_not, ev_and, ev_or, ev_isi, ev_int, ev_str, ev_bl, ev_non, ev_var, ev_glob, ev_cel, ev_listJ, ev_meth, ev_sortS, ev_slice, evs_cons, evs_nil, evO_none, evO_some, evC_none, evC_some, evI_ex, evI_range, evI_enum, stillW_tup, srcOf_tup, srcOf_lst, srcOf_new, put_nm, put_tp, putS_cons, putS_nil, wipe_cons, wipe_nil, List.getElem?_cons_succ, List.getElem?_cons_zero, List.set_cons_succ, List.set_cons_zero, bind_ok, noX_ok, ofO_some, fz_int, fz_bl, fz_str, fz_ref, fz_lst, fz_new, fz_tup, fz_scr, fz_non, truth_bl, Bool.not_true, Bool.not_false, bop_add, bop_sub, cop_eq_int, cop_ne_int, cop_lt_int, cop_le_int, cop_gt_int, cop_ge_int, subW, items_tup, items_lst, items_new, items_ref, itemsL_lst, itemsL_new, itemsL_ref, isCell_ref, sat_bind, sat_ok]
    cases a == 1 with
    | false => exact sat_nil ⟨_, rfl, P, Q, hP, hPn, hQ, hQn, hs, rfl⟩
    | true =>
        refine sat_cons (sat_par ?_)
        simp only [ev_bin, ev_cmp, ev_list, ev_tuple, ev_callH, ev_callHK, ev_callP, ev_callPK, ev_blt, ev_sub, ev_neg, ev_not, ev_and, ev_or, ev_isi, ev_int, ev_str, ev_bl, ev_non, ev_var, ev_glob, ev_cel, ev_listJ, ev_meth, ev_sortS, ev_slice, evs_cons, evs_nil, evO_none, evO_some, evC_none, evC_some, evI_ex, evI_range, evI_enum, stillW_tup, srcOf_tup, srcOf_lst, srcOf_new, put_nm, put_tp, putS_cons, putS_nil, wipe_cons, wipe_nil, List.getElem?_cons_succ, List.getElem?_cons_zero, List.set_cons_succ, List.set_cons_zero, bind_ok, noX_ok, ofO_some, fz_int, fz_bl, fz_str, fz_ref, fz_lst, fz_new, fz_tup, fz_scr, fz_non, truth_bl, Bool.not_true, Bool.not_false, bop_add, bop_sub, cop_eq_int, cop_ne_int, cop_lt_int, cop_le_int, cop_gt_int, cop_ge_int, subW, items_tup, items_lst, items_new, items_ref, itemsL_lst, itemsL_new, itemsL_ref, isCell_ref, sat_bind, sat_ok, fz_PL]
        exact sat_nil ⟨_, rfl, Q, P, hQ, hQn, hP, hPn, hs, rfl⟩
  clear hP hPn hQ hQn
  rintro ρ cs7 ⟨P, Q, hP, hPn, hQ, hQn, hs, rfl⟩
  refine step b_law 9 rfl (M10 (.scr (nums ns))) ?_ h
  refine sat_set ?_
  simp only [ev_bin, ev_cmp, ev_list, ev_tuple, ev_callH, ev_callHK, ev_callP, ev_callPK, ev_blt, ev_sub, ev_neg, ev_not, ev_and, ev_or, ev_isi, ev_int, ev_str, ev_bl, ev_non, ev_var, ev_glob, ev_cel, ev_listJ, ev_meth, ev_sortS, ev_slice, evs_cons, evs_nil, evO_none, evO_some, evC_none, evC_some, evI_ex, evI_range, evI_enum, stillW_tup, srcOf_tup, srcOf_lst, srcOf_new, put_nm, put_tp, putS_cons, putS_nil, wipe_cons, wipe_nil, List.getElem?_cons_succ, List.getElem?_cons_zero, List.set_cons_succ, List.set_cons_zero, bind_ok, noX_ok, ofO_some, fz_int, fz_bl, fz_str, fz_ref, fz_lst, fz_new, fz_tup, fz_scr, fz_non, truth_bl, Bool.not_true, Bool.not_false, bop_add, bop_sub, cop_eq_int, cop_ne_int, cop_lt_int, cop_le_int, cop_gt_int, cop_ge_int, subW, items_tup, items_lst, items_new, items_ref, itemsL_lst, itemsL_new, itemsL_ref, isCell_ref, sat_bind, sat_ok]
  refine (c_draw (k + 11) hs (by decide) (by decide)).mono fun w ca z => ?_
  obtain ⟨a, rfl, a0, a1, hs, ka⟩ := z
  simp only [ev_bin, ev_cmp, ev_list, ev_tuple, ev_callH, ev_callHK, ev_callP, ev_callPK, ev_blt, ev_sub, ev_neg, ev_not, ev_and, ev_or, ev_isi, ev_int, ev_str, ev_bl, ev_non, ev_var, ev_glob, ev_cel, ev_listJ, ev_meth, ev_sortS, ev_slice, evs_cons, evs_nil, evO_none, evO_some, evC_none, evC_some, evI_ex, evI_range, evI_enum, stillW_tup, srcOf_tup, srcOf_lst, srcOf_new, put_nm, put_tp, putS_cons, putS_nil, wipe_cons, wipe_nil, List.getElem?_cons_succ, List.getElem?_cons_zero, List.set_cons_succ, List.set_cons_zero, bind_ok, noX_ok, ofO_some, fz_int, fz_bl, fz_str, fz_ref, fz_lst, fz_new, fz_tup, fz_scr, fz_non, truth_bl, Bool.not_true, Bool.not_false, bop_add, bop_sub, cop_eq_int, cop_ne_int, cop_lt_int, cop_le_int, cop_gt_int, cop_ge_int, subW, items_tup, items_lst, items_new, items_ref, itemsL_lst, itemsL_new, itemsL_ref, isCell_ref, sat_bind, sat_ok]
  exact ⟨_, rfl, st, kd, a, n, P, Q, hn, hP, hQ, hPn, hQn, hs, rfl⟩
/-- behind sixteen -/
def M16 (sc : W) (ρ : ME) (cs : List Ob) : Prop := ∃ (nm : Int) (w2 w3 w4 w5 w6 w8 : W), Sr cs ∧ ρ = [some sc, some (.ref 2), some w2, some w3, some w4, some w5, some w6, some (.int nm), some w8, none, none, none, none, none]
theorem same_c (k : Nat) {w : W} {cs : List Ob} (h : gd 6 w = true) : callP (XX.O (k + 12)) 10 [w, w] cs = .ok (.bl true) cs := same_call at_law_same h
theorem gd_told {k : Nat} {s : String} {w : W} (h : gd (k + 1) w = true) : gd (k + 2) (.tup [.str (PySem.Str.ofString s), w]) = true := gd_tup (by simp) fun x hx => by
  simp only [List.mem_cons, List.not_mem_nil, or_false] at hx
  rcases hx with rfl | rfl
  · exact gd_str _ _
  · exact h
theorem law_16 (k : Nat) {ρ : ME} {cs : List Ob} (h10 : M10 sc ρ cs) (h : ∀ ρ cs, M16 sc ρ cs → Sat (runs (XX.O (k + 12)) (drop 16 b_law) ρ cs) Q0) :
    Sat (runs (XX.O (k + 12)) (drop 10 b_law) ρ cs) Q0 := by
  obtain ⟨st, kd, nm, n, P, Q, hn, hP, hQ, hPn, hQn, hs, rfl⟩ := h10
  have dP : ∀ {P : List (List Int)} {cs : List Ob}, deref cs deep (PL P) = some (PL P) := fun {P cs} => flat_gd (flat_PL P)
  have c3 : ∀ cs, callP (XX.O (k + 12)) 3 [PL P] cs = .ok (tI (nmb 0 P)) cs := fun cs => (p_numbers_of (k + 11) hP (by omega)).call (derefL_cons' dP derefL_nil')
  have c14 : ∀ cs, callP (XX.O (k + 12)) 14 [PL P] cs = .ok (tI (nmb 0 P)) cs := fun cs => (p_law_numbers (k + 11) hP (by omega)).call (derefL_cons' dP derefL_nil')
  have ln := nmb_len (i := 0) hP (by omega)
  refine step' b_law 10 rfl (sat_if ?_)
  simp only [ev_bin, ev_cmp, ev_list, ev_tuple, ev_callH, ev_callHK, ev_callP, ev_callPK, ev_blt, ev_sub, ev_neg, ev_not, ev_and, ev_or, ev_isi, ev_int, ev_str, ev_bl, ev_non, ev_var, ev_glob, ev_cel, ev_listJ, ev_meth, ev_sortS, ev_slice, evs_cons, evs_nil, evO_none, evO_some, evC_none, evC_some, evI_ex, evI_range, evI_enum, stillW_tup, srcOf_tup, srcOf_lst, srcOf_new, put_nm, put_tp, putS_cons, putS_nil, wipe_cons, wipe_nil, List.getElem?_cons_succ, List.getElem?_cons_zero, List.set_cons_succ, List.set_cons_zero, bind_ok, noX_ok, ofO_some, fz_int, fz_bl, fz_str, fz_ref, fz_lst, fz_new, fz_tup, fz_scr, fz_non, truth_bl, Bool.not_true, Bool.not_false, bop_add, bop_sub, cop_eq_int, cop_ne_int, cop_lt_int, cop_le_int, cop_gt_int, cop_ge_int, subW, items_tup, items_lst, items_new, items_ref, itemsL_lst, itemsL_new, itemsL_ref, isCell_ref, sat_bind, sat_ok, fz_PL, c3, c14, same_c k (w := tI (nmb 0 P)) (gd_tI (by omega))]
  refine sat_nil ?_
  refine step b_law 11 rfl (fun ρ' cs => Sr cs ∧ ρ' = [some sc, some (.ref 2), some (.int st), some (.int (n : Int)), some (PL P), some (.int kd), some (PL Q), some (.int nm), none, none, none, none, none, none]) ?_ ?_
  · refine sat_if ?_
    simp only [ev_bin, ev_cmp, ev_list, ev_tuple, ev_callH, ev_callHK, ev_callP, ev_callPK, ev_blt, ev_sub, ev_neg, ev_not, ev_and, ev_or, ev_isi, ev_int, ev_str, ev_bl, ev_non, ev_var, ev_glob, ev_cel, ev_listJ, ev_meth, ev_sortS, ev_slice, evs_cons, evs_nil, evO_none, evO_some, evC_none, evC_some, evI_ex, evI_range, evI_enum, stillW_tup, srcOf_tup, srcOf_lst, srcOf_new, put_nm, put_tp, putS_cons, putS_nil, wipe_cons, wipe_nil, List.getElem?_cons_succ, List.getElem?_cons_zero, List.set_cons_succ, List.set_cons_zero, bind_ok, noX_ok, ofO_some, fz_int, fz_bl, fz_str, fz_ref, fz_lst, fz_new, fz_tup, fz_scr, fz_non, truth_bl, Bool.not_true, Bool.not_false, bop_add, bop_sub, cop_eq_int, cop_ne_int, cop_lt_int, cop_le_int, cop_gt_int, cop_ge_int, subW, items_tup, items_lst, items_new, items_ref, itemsL_lst, itemsL_new, itemsL_ref, isCell_ref, sat_bind, sat_ok, fz_PL, c14]
    refine (c_ask (k + 8) (n := n) (nm := nm) hn ln (nmb_rise hP) (fun x hx => by have := nmb_ge hP hx; omega)).mono fun w cs1 z => ?_
    obtain ⟨rfl, x, rfl⟩ := z
    have e : plc n (nmb 0 P) = P := by rw [← hPn]; exact plc_nmb hP
    rw [e, mkTup_ok (show [W.str "told", PL P].length ≤ 100000 by simp)]
    simp only [ev_bin, ev_cmp, ev_list, ev_tuple, ev_callH, ev_callHK, ev_callP, ev_callPK, ev_blt, ev_sub, ev_neg, ev_not, ev_and, ev_or, ev_isi, ev_int, ev_str, ev_bl, ev_non, ev_var, ev_glob, ev_cel, ev_listJ, ev_meth, ev_sortS, ev_slice, evs_cons, evs_nil, evO_none, evO_some, evC_none, evC_some, evI_ex, evI_range, evI_enum, stillW_tup, srcOf_tup, srcOf_lst, srcOf_new, put_nm, put_tp, putS_cons, putS_nil, wipe_cons, wipe_nil, List.getElem?_cons_succ, List.getElem?_cons_zero, List.set_cons_succ, List.set_cons_zero, bind_ok, noX_ok, ofO_some, fz_int, fz_bl, fz_str, fz_ref, fz_lst, fz_new, fz_tup, fz_scr, fz_non, truth_bl, Bool.not_true, Bool.not_false, bop_add, bop_sub, cop_eq_int, cop_ne_int, cop_lt_int, cop_le_int, cop_gt_int, cop_ge_int, subW, items_tup, items_lst, items_new, items_ref, itemsL_lst, itemsL_new, itemsL_ref, isCell_ref, sat_bind, sat_ok, same_c k (w := .tup [.str "told", PL P]) (gd_told (k := 4) (gd_PL (k := 2) hP (by omega)))]
    exact sat_nil ⟨_, rfl, hs.app, rfl⟩
  clear hs
  rintro ρ cs1 ⟨hs, rfl⟩
  have l1 : (aln 0 P Q).length ≤ 99999 := by have := aln_len (P := P) (Q := Q) (i := 0) hP; omega
  have l2 : (aln 0 Q P).length ≤ 99999 := by have := aln_len (P := Q) (Q := P) (i := 0) hQ; omega
  have a1 : ∀ cs, callP (XX.O (k + 12)) 16 [PL P, PL Q] cs = .ok (tP (aln 0 P Q)) cs := fun cs => (p_law_alone (k + 11) hP (by omega) (by omega)).call (derefL_cons' dP (derefL_cons' dP derefL_nil'))
  have a2 : ∀ cs, callP (XX.O (k + 12)) 16 [PL Q, PL P] cs = .ok (tP (aln 0 Q P)) cs := fun cs => (p_law_alone (k + 11) hQ (by omega) (by omega)).call (derefL_cons' dP (derefL_cons' dP derefL_nil'))
  have u1 : ∀ cs, callP (XX.O (k + 12)) 6 [PL P, PL Q] cs = .ok (.tup [tP (aln 0 P Q), tP (aln 0 Q P)]) cs := fun cs => (p_unlike (k + 10) hP hQ (by omega) (by omega)).call (derefL_cons' dP (derefL_cons' dP derefL_nil'))
  have u2 : ∀ cs, callP (XX.O (k + 12)) 6 [PL Q, PL P] cs = .ok (.tup [tP (aln 0 Q P), tP (aln 0 P Q)]) cs := fun cs => (p_unlike (k + 10) hQ hP (by omega) (by omega)).call (derefL_cons' dP (derefL_cons' dP derefL_nil'))
  have n1 : ∀ cs, callP (XX.O (k + 12)) 7 [PL Q, PL P] cs = .ok (tP (aln 0 P Q)) cs := fun cs => (p_new_copies (k + 11) hP (by omega) (by omega)).call (derefL_cons' dP (derefL_cons' dP derefL_nil'))
  have n2 : ∀ cs, callP (XX.O (k + 12)) 7 [PL P, PL Q] cs = .ok (tP (aln 0 Q P)) cs := fun cs => (p_new_copies (k + 11) hQ (by omega) (by omega)).call (derefL_cons' dP (derefL_cons' dP derefL_nil'))
  have g : ∀ {a b : List (Int × Int)}, a.length ≤ 99999 → b.length ≤ 99999 → gd 6 (.tup [tP a, tP b]) = true := fun {a b} ha hb => gd_tup (by simp) fun x hx => by
    simp only [List.mem_cons, List.not_mem_nil, or_false] at hx
    rcases hx with rfl | rfl
    · exact gd_tP ha
    · exact gd_tP hb
  have m1 : ∀ a b (cs : List Ob), mkTup [tP a, tP b] cs = .ok (.tup [tP a, tP b]) cs := fun a b cs => mkTup_ok (by simp)
  refine step' b_law 12 rfl (sat_set ?_)
  simp only [ev_bin, ev_cmp, ev_list, ev_tuple, ev_callH, ev_callHK, ev_callP, ev_callPK, ev_blt, ev_sub, ev_neg, ev_not, ev_and, ev_or, ev_isi, ev_int, ev_str, ev_bl, ev_non, ev_var, ev_glob, ev_cel, ev_listJ, ev_meth, ev_sortS, ev_slice, evs_cons, evs_nil, evO_none, evO_some, evC_none, evC_some, evI_ex, evI_range, evI_enum, stillW_tup, srcOf_tup, srcOf_lst, srcOf_new, put_nm, put_tp, putS_cons, putS_nil, wipe_cons, wipe_nil, List.getElem?_cons_succ, List.getElem?_cons_zero, List.set_cons_succ, List.set_cons_zero, bind_ok, noX_ok, ofO_some, fz_int, fz_bl, fz_str, fz_ref, fz_lst, fz_new, fz_tup, fz_scr, fz_non, truth_bl, Bool.not_true, Bool.not_false, bop_add, bop_sub, cop_eq_int, cop_ne_int, cop_lt_int, cop_le_int, cop_gt_int, cop_ge_int, subW, items_tup, items_lst, items_new, items_ref, itemsL_lst, itemsL_new, itemsL_ref, isCell_ref, sat_bind, sat_ok, fz_PL, fz_tP, a1, a2, m1]
  refine step' b_law 13 rfl (sat_if ?_)
  simp only [ev_bin, ev_cmp, ev_list, ev_tuple, ev_callH, ev_callHK, ev_callP, ev_callPK, ev_blt, ev_sub, ev_neg, ev_not, ev_and, ev_or, ev_isi, ev_int, ev_str, ev_bl, ev_non, ev_var, ev_glob, ev_cel, ev_listJ, ev_meth, ev_sortS, ev_slice, evs_cons, evs_nil, evO_none, evO_some, evC_none, evC_some, evI_ex, evI_range, evI_enum, stillW_tup, srcOf_tup, srcOf_lst, srcOf_new, put_nm, put_tp, putS_cons, putS_nil, wipe_cons, wipe_nil, List.getElem?_cons_succ, List.getElem?_cons_zero, List.set_cons_succ, List.set_cons_zero, bind_ok, noX_ok, ofO_some, fz_int, fz_bl, fz_str, fz_ref, fz_lst, fz_new, fz_tup, fz_scr, fz_non, truth_bl, Bool.not_true, Bool.not_false, bop_add, bop_sub, cop_eq_int, cop_ne_int, cop_lt_int, cop_le_int, cop_gt_int, cop_ge_int, subW, items_tup, items_lst, items_new, items_ref, itemsL_lst, itemsL_new, itemsL_ref, isCell_ref, sat_bind, sat_ok, fz_PL, u1, same_c k (g l1 l2)]
  refine sat_nil ?_
  refine step' b_law 14 rfl (sat_if ?_)
  simp only [ev_bin, ev_cmp, ev_list, ev_tuple, ev_callH, ev_callHK, ev_callP, ev_callPK, ev_blt, ev_sub, ev_neg, ev_not, ev_and, ev_or, ev_isi, ev_int, ev_str, ev_bl, ev_non, ev_var, ev_glob, ev_cel, ev_listJ, ev_meth, ev_sortS, ev_slice, evs_cons, evs_nil, evO_none, evO_some, evC_none, evC_some, evI_ex, evI_range, evI_enum, stillW_tup, srcOf_tup, srcOf_lst, srcOf_new, put_nm, put_tp, putS_cons, putS_nil, wipe_cons, wipe_nil, List.getElem?_cons_succ, List.getElem?_cons_zero, List.set_cons_succ, List.set_cons_zero, bind_ok, noX_ok, ofO_some, fz_int, fz_bl, fz_str, fz_ref, fz_lst, fz_new, fz_tup, fz_scr, fz_non, truth_bl, Bool.not_true, Bool.not_false, bop_add, bop_sub, cop_eq_int, cop_ne_int, cop_lt_int, cop_le_int, cop_gt_int, cop_ge_int, subW, items_tup, items_lst, items_new, items_ref, itemsL_lst, itemsL_new, itemsL_ref, isCell_ref, sat_bind, sat_ok, fz_PL, fz_tP, show permute [PL P, PL Q] [1, 0] = [PL Q, PL P] from rfl, u2, show at? [tP (aln 0 P Q), tP (aln 0 Q P)] 1 = some (tP (aln 0 Q P)) from rfl, show at? [tP (aln 0 P Q), tP (aln 0 Q P)] 0 = some (tP (aln 0 P Q)) from rfl, m1, same_c k (g l2 l1)]
  refine sat_nil ?_
  refine step' b_law 15 rfl (sat_if ?_)
  simp only [ev_bin, ev_cmp, ev_list, ev_tuple, ev_callH, ev_callHK, ev_callP, ev_callPK, ev_blt, ev_sub, ev_neg, ev_not, ev_and, ev_or, ev_isi, ev_int, ev_str, ev_bl, ev_non, ev_var, ev_glob, ev_cel, ev_listJ, ev_meth, ev_sortS, ev_slice, evs_cons, evs_nil, evO_none, evO_some, evC_none, evC_some, evI_ex, evI_range, evI_enum, stillW_tup, srcOf_tup, srcOf_lst, srcOf_new, put_nm, put_tp, putS_cons, putS_nil, wipe_cons, wipe_nil, List.getElem?_cons_succ, List.getElem?_cons_zero, List.set_cons_succ, List.set_cons_zero, bind_ok, noX_ok, ofO_some, fz_int, fz_bl, fz_str, fz_ref, fz_lst, fz_new, fz_tup, fz_scr, fz_non, truth_bl, Bool.not_true, Bool.not_false, bop_add, bop_sub, cop_eq_int, cop_ne_int, cop_lt_int, cop_le_int, cop_gt_int, cop_ge_int, subW, items_tup, items_lst, items_new, items_ref, itemsL_lst, itemsL_new, itemsL_ref, isCell_ref, sat_bind, sat_ok, fz_PL, fz_tP, n1, n2, m1, same_c k (g l1 l2)]
  refine sat_nil ?_
  exact h _ _ ⟨nm, _, _, _, _, _, _, hs, rfl⟩
/-- behind twenty-one -/
def M21 (sc : W) (ρ : ME) (cs : List Ob) : Prop := ∃ (nm : Int) (w2 w3 w4 w5 w6 w8 wr : W) (n : Nat) (L : List Int) (r : Nat) (cs0 : List Ob), n ≤ 40 ∧ Rw n L ∧ At wr ∧ gd 4 wr = true ∧ flat deep wr = true ∧ ift wr 0 40 = false ∧ Wr n cs0 r 12 cs ∧
  ρ = [some sc, some (.ref 2), some w2, some w3, some w4, some w5, some w6, some (.int nm), some w8, some (.int (n : Int)), some (tI L), some wr, some (.ref r), none]
theorem gd_plc {k n : Nat} {L : List Int} (hn : n ≤ 40) (hl : L.length ≤ 320) : gd (k + 3) (PL (plc n L)) = true := gd_tup (by rw [List.length_map, plc_len]; omega) fun x hx => by
  simp only [plc, List.map_map, List.mem_map] at hx
  obtain ⟨p, _, rfl⟩ := hx
  have := lotAt_len L (p : Int)
  exact gd_tI (show (lotAt L (p : Int)).length ≤ 99999 by omega)
theorem at_8 {v d : Int} (h0 : 0 ≤ v) (h1 : v < 8) (hd : 0 ≤ d) : ∃ x, at? [.int 41, .int (-1), .bl true, .bl false, .non, .str "3", .tup [.int 1], .int (42 + d)] v = some x ∧ At x ∧ gd 4 x = true ∧ flat deep x = true ∧ ift x 0 40 = false := by
  have : v = 0 ∨ v = 1 ∨ v = 2 ∨ v = 3 ∨ v = 4 ∨ v = 5 ∨ v = 6 ∨ v = 7 := by omega
  rcases this with rfl | rfl | rfl | rfl | rfl | rfl | rfl | rfl
  · exact ⟨_, rfl, trivial, rfl, rfl, rfl⟩
  · exact ⟨_, rfl, trivial, rfl, rfl, rfl⟩
  · exact ⟨_, rfl, trivial, rfl, rfl, rfl⟩
  · exact ⟨_, rfl, trivial, rfl, rfl, rfl⟩
  · exact ⟨_, rfl, trivial, rfl, rfl, rfl⟩
  · exact ⟨_, rfl, trivial, gd_str 3 "3", rfl, rfl⟩
  · exact ⟨_, rfl, trivial, rfl, rfl, rfl⟩
  · refine ⟨_, rfl, trivial, rfl, rfl, ?_⟩
    simp only [ift, Bool.and_eq_false_iff, decide_eq_false_iff_not]
    omega
theorem law_21 (k : Nat) {ρ : ME} {cs : List Ob} (h16 : M16 sc ρ cs) (h : ∀ ρ cs, M21 sc ρ cs → Sat (runs (XX.O (k + 12)) (drop 21 b_law) ρ cs) Q0) :
    Sat (runs (XX.O (k + 12)) (drop 16 b_law) ρ cs) Q0 := by
  obtain ⟨nm, w2, w3, w4, w5, w6, w8, hs, rfl⟩ := h16
  refine step b_law 16 rfl (fun ρ' cs => ∃ n : Nat, n ≤ 40 ∧ Sr cs ∧ ρ' = [some sc, some (.ref 2), some w2, some w3, some w4, some w5, some w6, some (.int nm), some w8, some (.int (n : Int)), none, none, none, none]) ?_ ?_
  · refine sat_set ?_
    simp only [ev_bin, ev_cmp, ev_list, ev_tuple, ev_callH, ev_callHK, ev_callP, ev_callPK, ev_blt, ev_sub, ev_neg, ev_not, ev_and, ev_or, ev_isi, ev_int, ev_str, ev_bl, ev_non, ev_var, ev_glob, ev_cel, ev_listJ, ev_meth, ev_sortS, ev_slice, evs_cons, evs_nil, evO_none, evO_some, evC_none, evC_some, evI_ex, evI_range, evI_enum, stillW_tup, srcOf_tup, srcOf_lst, srcOf_new, put_nm, put_tp, putS_cons, putS_nil, wipe_cons, wipe_nil, List.getElem?_cons_succ, List.getElem?_cons_zero, List.set_cons_succ, List.set_cons_zero, bind_ok, noX_ok, ofO_some, fz_int, fz_bl, fz_str, fz_ref, fz_lst, fz_new, fz_tup, fz_scr, fz_non, truth_bl, Bool.not_true, Bool.not_false, bop_add, bop_sub, cop_eq_int, cop_ne_int, cop_lt_int, cop_le_int, cop_gt_int, cop_ge_int, subW, items_tup, items_lst, items_new, items_ref, itemsL_lst, itemsL_new, itemsL_ref, isCell_ref, sat_bind, sat_ok]
    refine (c_draw (k + 11) hs (by decide) (by decide)).mono fun w ca z => ?_
    obtain ⟨a, rfl, a0, a1, hs, ka⟩ := z
    simp only [ev_bin, ev_cmp, ev_list, ev_tuple, ev_callH, ev_callHK, ev_callP, ev_callPK, ev_blt, ev_sub, ev_neg, ev_not, ev_and, ev_or, ev_isi, ev_int, ev_str, ev_bl, ev_non, ev_var, ev_glob, ev_cel, ev_listJ, ev_meth, ev_sortS, ev_slice, evs_cons, evs_nil, evO_none, evO_some, evC_none, evC_some, evI_ex, evI_range, evI_enum, stillW_tup, srcOf_tup, srcOf_lst, srcOf_new, put_nm, put_tp, putS_cons, putS_nil, wipe_cons, wipe_nil, List.getElem?_cons_succ, List.getElem?_cons_zero, List.set_cons_succ, List.set_cons_zero, bind_ok, noX_ok, ofO_some, fz_int, fz_bl, fz_str, fz_ref, fz_lst, fz_new, fz_tup, fz_scr, fz_non, truth_bl, Bool.not_true, Bool.not_false, bop_add, bop_sub, cop_eq_int, cop_ne_int, cop_lt_int, cop_le_int, cop_gt_int, cop_ge_int, subW, items_tup, items_lst, items_new, items_ref, itemsL_lst, itemsL_new, itemsL_ref, isCell_ref, sat_bind, sat_ok]
    refine (c_draw (k + 11) hs (by decide) (by decide)).mono fun w cb z => ?_
    obtain ⟨b, rfl, b0, b1, hs, kb⟩ := z
    simp only [ev_bin, ev_cmp, ev_list, ev_tuple, ev_callH, ev_callHK, ev_callP, ev_callPK, ev_blt, ev_sub, ev_neg, ev_not, ev_and, ev_or, ev_isi, ev_int, ev_str, ev_bl, ev_non, ev_var, ev_glob, ev_cel, ev_listJ, ev_meth, ev_sortS, ev_slice, evs_cons, evs_nil, evO_none, evO_some, evC_none, evC_some, evI_ex, evI_range, evI_enum, stillW_tup, srcOf_tup, srcOf_lst, srcOf_new, put_nm, put_tp, putS_cons, putS_nil, wipe_cons, wipe_nil, List.getElem?_cons_succ, List.getElem?_cons_zero, List.set_cons_succ, List.set_cons_zero, bind_ok, noX_ok, ofO_some, fz_int, fz_bl, fz_str, fz_ref, fz_lst, fz_new, fz_tup, fz_scr, fz_non, truth_bl, Bool.not_true, Bool.not_false, bop_add, bop_sub, cop_eq_int, cop_ne_int, cop_lt_int, cop_le_int, cop_gt_int, cop_ge_int, subW, items_tup, items_lst, items_new, items_ref, itemsL_lst, itemsL_new, itemsL_ref, isCell_ref, sat_bind, sat_ok]
    rw [mkNew_ok (by simp)]
    simp only [ev_bin, ev_cmp, ev_list, ev_tuple, ev_callH, ev_callHK, ev_callP, ev_callPK, ev_blt, ev_sub, ev_neg, ev_not, ev_and, ev_or, ev_isi, ev_int, ev_str, ev_bl, ev_non, ev_var, ev_glob, ev_cel, ev_listJ, ev_meth, ev_sortS, ev_slice, evs_cons, evs_nil, evO_none, evO_some, evC_none, evC_some, evI_ex, evI_range, evI_enum, stillW_tup, srcOf_tup, srcOf_lst, srcOf_new, put_nm, put_tp, putS_cons, putS_nil, wipe_cons, wipe_nil, List.getElem?_cons_succ, List.getElem?_cons_zero, List.set_cons_succ, List.set_cons_zero, bind_ok, noX_ok, ofO_some, fz_int, fz_bl, fz_str, fz_ref, fz_lst, fz_new, fz_tup, fz_scr, fz_non, truth_bl, Bool.not_true, Bool.not_false, bop_add, bop_sub, cop_eq_int, cop_ne_int, cop_lt_int, cop_le_int, cop_gt_int, cop_ge_int, subW, items_tup, items_lst, items_new, items_ref, itemsL_lst, itemsL_new, itemsL_ref, isCell_ref, sat_bind, sat_ok]
    refine (c_draw (k + 11) hs (by decide) (by decide)).mono fun w cd z => ?_
    obtain ⟨d, rfl, d0, d1, hs, kd⟩ := z
    obtain ⟨x, e1, hx⟩ := at_5 (a := 0) (b := 1) (c := 40) (d := a) (e := 2 + b) d0 d1
    obtain ⟨n, rfl⟩ : ∃ m : Nat, x = m := ⟨x.toNat, by omega⟩
    simp only [ev_bin, ev_cmp, ev_list, ev_tuple, ev_callH, ev_callHK, ev_callP, ev_callPK, ev_blt, ev_sub, ev_neg, ev_not, ev_and, ev_or, ev_isi, ev_int, ev_str, ev_bl, ev_non, ev_var, ev_glob, ev_cel, ev_listJ, ev_meth, ev_sortS, ev_slice, evs_cons, evs_nil, evO_none, evO_some, evC_none, evC_some, evI_ex, evI_range, evI_enum, stillW_tup, srcOf_tup, srcOf_lst, srcOf_new, put_nm, put_tp, putS_cons, putS_nil, wipe_cons, wipe_nil, List.getElem?_cons_succ, List.getElem?_cons_zero, List.set_cons_succ, List.set_cons_zero, bind_ok, noX_ok, ofO_some, fz_int, fz_bl, fz_str, fz_ref, fz_lst, fz_new, fz_tup, fz_scr, fz_non, truth_bl, Bool.not_true, Bool.not_false, bop_add, bop_sub, cop_eq_int, cop_ne_int, cop_lt_int, cop_le_int, cop_gt_int, cop_ge_int, subW, items_tup, items_lst, items_new, items_ref, itemsL_lst, itemsL_new, itemsL_ref, isCell_ref, sat_bind, sat_ok, e1]
    exact ⟨_, rfl, n, by omega, hs, rfl⟩
  clear hs
  rintro ρ cs1 ⟨n, hn, hs, rfl⟩
  refine step b_law 17 rfl (fun ρ' cs => ∃ L, Rw n L ∧ Sr cs ∧ ρ' = [some sc, some (.ref 2), some w2, some w3, some w4, some w5, some w6, some (.int nm), some w8, some (.int (n : Int)), some (tI L), none, none, none]) ?_ ?_
  · refine sat_set ?_
    simp only [ev_bin, ev_cmp, ev_list, ev_tuple, ev_callH, ev_callHK, ev_callP, ev_callPK, ev_blt, ev_sub, ev_neg, ev_not, ev_and, ev_or, ev_isi, ev_int, ev_str, ev_bl, ev_non, ev_var, ev_glob, ev_cel, ev_listJ, ev_meth, ev_sortS, ev_slice, evs_cons, evs_nil, evO_none, evO_some, evC_none, evC_some, evI_ex, evI_range, evI_enum, stillW_tup, srcOf_tup, srcOf_lst, srcOf_new, put_nm, put_tp, putS_cons, putS_nil, wipe_cons, wipe_nil, List.getElem?_cons_succ, List.getElem?_cons_zero, List.set_cons_succ, List.set_cons_zero, bind_ok, noX_ok, ofO_some, fz_int, fz_bl, fz_str, fz_ref, fz_lst, fz_new, fz_tup, fz_scr, fz_non, truth_bl, Bool.not_true, Bool.not_false, bop_add, bop_sub, cop_eq_int, cop_ne_int, cop_lt_int, cop_le_int, cop_gt_int, cop_ge_int, subW, items_tup, items_lst, items_new, items_ref, itemsL_lst, itemsL_new, itemsL_ref, isCell_ref, sat_bind, sat_ok]
    refine (c_row (k + 10) hn hs).mono fun w cb z => ?_
    obtain ⟨L, rfl, hL, hs, _⟩ := z
    simp only [ev_bin, ev_cmp, ev_list, ev_tuple, ev_callH, ev_callHK, ev_callP, ev_callPK, ev_blt, ev_sub, ev_neg, ev_not, ev_and, ev_or, ev_isi, ev_int, ev_str, ev_bl, ev_non, ev_var, ev_glob, ev_cel, ev_listJ, ev_meth, ev_sortS, ev_slice, evs_cons, evs_nil, evO_none, evO_some, evC_none, evC_some, evI_ex, evI_range, evI_enum, stillW_tup, srcOf_tup, srcOf_lst, srcOf_new, put_nm, put_tp, putS_cons, putS_nil, wipe_cons, wipe_nil, List.getElem?_cons_succ, List.getElem?_cons_zero, List.set_cons_succ, List.set_cons_zero, bind_ok, noX_ok, ofO_some, fz_int, fz_bl, fz_str, fz_ref, fz_lst, fz_new, fz_tup, fz_scr, fz_non, truth_bl, Bool.not_true, Bool.not_false, bop_add, bop_sub, cop_eq_int, cop_ne_int, cop_lt_int, cop_le_int, cop_gt_int, cop_ge_int, subW, items_tup, items_lst, items_new, items_ref, itemsL_lst, itemsL_new, itemsL_ref, isCell_ref, sat_bind, sat_ok]
    exact ⟨_, rfl, L, hL, hs, rfl⟩
  clear hs
  rintro ρ cs2 ⟨L, hL, hs, rfl⟩
  have ll := hL.len hn
  have pl : ∀ cs, callP (XX.O (k + 12)) 15 [.int (n : Int), tI L] cs = .ok (PL (plc n L)) cs := fun cs => (p_law_placed (k + 11) hn ll hL.lo).call (derefL_cons' rfl (derefL_cons' (deref_tI cs L) derefL_nil'))
  refine step b_law 18 rfl (fun ρ' cs => Sr cs ∧ ρ' = [some sc, some (.ref 2), some w2, some w3, some w4, some w5, some w6, some (.int nm), some w8, some (.int (n : Int)), some (tI L), none, none, none]) ?_ ?_
  · refine sat_if ?_
    simp only [ev_bin, ev_cmp, ev_list, ev_tuple, ev_callH, ev_callHK, ev_callP, ev_callPK, ev_blt, ev_sub, ev_neg, ev_not, ev_and, ev_or, ev_isi, ev_int, ev_str, ev_bl, ev_non, ev_var, ev_glob, ev_cel, ev_listJ, ev_meth, ev_sortS, ev_slice, evs_cons, evs_nil, evO_none, evO_some, evC_none, evC_some, evI_ex, evI_range, evI_enum, stillW_tup, srcOf_tup, srcOf_lst, srcOf_new, put_nm, put_tp, putS_cons, putS_nil, wipe_cons, wipe_nil, List.getElem?_cons_succ, List.getElem?_cons_zero, List.set_cons_succ, List.set_cons_zero, bind_ok, noX_ok, ofO_some, fz_int, fz_bl, fz_str, fz_ref, fz_lst, fz_new, fz_tup, fz_scr, fz_non, truth_bl, Bool.not_true, Bool.not_false, bop_add, bop_sub, cop_eq_int, cop_ne_int, cop_lt_int, cop_le_int, cop_gt_int, cop_ge_int, subW, items_tup, items_lst, items_new, items_ref, itemsL_lst, itemsL_new, itemsL_ref, isCell_ref, sat_bind, sat_ok]
    refine (c_ask (k + 8) (n := n) (nm := 1 - nm) hn ll hL.up hL.lo).mono fun w cs1 z => ?_
    obtain ⟨rfl, x, rfl⟩ := z
    simp only [ev_bin, ev_cmp, ev_list, ev_tuple, ev_callH, ev_callHK, ev_callP, ev_callPK, ev_blt, ev_sub, ev_neg, ev_not, ev_and, ev_or, ev_isi, ev_int, ev_str, ev_bl, ev_non, ev_var, ev_glob, ev_cel, ev_listJ, ev_meth, ev_sortS, ev_slice, evs_cons, evs_nil, evO_none, evO_some, evC_none, evC_some, evI_ex, evI_range, evI_enum, stillW_tup, srcOf_tup, srcOf_lst, srcOf_new, put_nm, put_tp, putS_cons, putS_nil, wipe_cons, wipe_nil, List.getElem?_cons_succ, List.getElem?_cons_zero, List.set_cons_succ, List.set_cons_zero, bind_ok, noX_ok, ofO_some, fz_int, fz_bl, fz_str, fz_ref, fz_lst, fz_new, fz_tup, fz_scr, fz_non, truth_bl, Bool.not_true, Bool.not_false, bop_add, bop_sub, cop_eq_int, cop_ne_int, cop_lt_int, cop_le_int, cop_gt_int, cop_ge_int, subW, items_tup, items_lst, items_new, items_ref, itemsL_lst, itemsL_new, itemsL_ref, isCell_ref, sat_bind, sat_ok, pl, fz_PL]
    rw [mkTup_ok (show [W.str "told", PL (plc n L)].length ≤ 100000 by simp)]
    simp only [ev_bin, ev_cmp, ev_list, ev_tuple, ev_callH, ev_callHK, ev_callP, ev_callPK, ev_blt, ev_sub, ev_neg, ev_not, ev_and, ev_or, ev_isi, ev_int, ev_str, ev_bl, ev_non, ev_var, ev_glob, ev_cel, ev_listJ, ev_meth, ev_sortS, ev_slice, evs_cons, evs_nil, evO_none, evO_some, evC_none, evC_some, evI_ex, evI_range, evI_enum, stillW_tup, srcOf_tup, srcOf_lst, srcOf_new, put_nm, put_tp, putS_cons, putS_nil, wipe_cons, wipe_nil, List.getElem?_cons_succ, List.getElem?_cons_zero, List.set_cons_succ, List.set_cons_zero, bind_ok, noX_ok, ofO_some, fz_int, fz_bl, fz_str, fz_ref, fz_lst, fz_new, fz_tup, fz_scr, fz_non, truth_bl, Bool.not_true, Bool.not_false, bop_add, bop_sub, cop_eq_int, cop_ne_int, cop_lt_int, cop_le_int, cop_gt_int, cop_ge_int, subW, items_tup, items_lst, items_new, items_ref, itemsL_lst, itemsL_new, itemsL_ref, isCell_ref, sat_bind, sat_ok, same_c k (w := .tup [.str "told", PL (plc n L)]) (gd_told (k := 4) (gd_plc (k := 2) hn ll))]
    exact sat_nil ⟨_, rfl, hs.app, rfl⟩
  clear hs
  rintro ρ cs3 ⟨hs, rfl⟩
  refine step b_law 19 rfl (fun ρ' cs => ∃ wr, At wr ∧ gd 4 wr = true ∧ flat deep wr = true ∧ ift wr 0 40 = false ∧ Sr cs ∧ ρ' = [some sc, some (.ref 2), some w2, some w3, some w4, some w5, some w6, some (.int nm), some w8, some (.int (n : Int)), some (tI L), some wr, none, none]) ?_ ?_
  · refine sat_set ?_
    simp only [ev_bin, ev_cmp, ev_list, ev_tuple, ev_callH, ev_callHK, ev_callP, ev_callPK, ev_blt, ev_sub, ev_neg, ev_not, ev_and, ev_or, ev_isi, ev_int, ev_str, ev_bl, ev_non, ev_var, ev_glob, ev_cel, ev_listJ, ev_meth, ev_sortS, ev_slice, evs_cons, evs_nil, evO_none, evO_some, evC_none, evC_some, evI_ex, evI_range, evI_enum, stillW_tup, srcOf_tup, srcOf_lst, srcOf_new, put_nm, put_tp, putS_cons, putS_nil, wipe_cons, wipe_nil, List.getElem?_cons_succ, List.getElem?_cons_zero, List.set_cons_succ, List.set_cons_zero, bind_ok, noX_ok, ofO_some, fz_int, fz_bl, fz_str, fz_ref, fz_lst, fz_new, fz_tup, fz_scr, fz_non, truth_bl, Bool.not_true, Bool.not_false, bop_add, bop_sub, cop_eq_int, cop_ne_int, cop_lt_int, cop_le_int, cop_gt_int, cop_ge_int, subW, items_tup, items_lst, items_new, items_ref, itemsL_lst, itemsL_new, itemsL_ref, isCell_ref, sat_bind, sat_ok]
    rw [mkTup_ok (show [W.int 1].length ≤ 100000 by simp)]
    simp only [ev_bin, ev_cmp, ev_list, ev_tuple, ev_callH, ev_callHK, ev_callP, ev_callPK, ev_blt, ev_sub, ev_neg, ev_not, ev_and, ev_or, ev_isi, ev_int, ev_str, ev_bl, ev_non, ev_var, ev_glob, ev_cel, ev_listJ, ev_meth, ev_sortS, ev_slice, evs_cons, evs_nil, evO_none, evO_some, evC_none, evC_some, evI_ex, evI_range, evI_enum, stillW_tup, srcOf_tup, srcOf_lst, srcOf_new, put_nm, put_tp, putS_cons, putS_nil, wipe_cons, wipe_nil, List.getElem?_cons_succ, List.getElem?_cons_zero, List.set_cons_succ, List.set_cons_zero, bind_ok, noX_ok, ofO_some, fz_int, fz_bl, fz_str, fz_ref, fz_lst, fz_new, fz_tup, fz_scr, fz_non, truth_bl, Bool.not_true, Bool.not_false, bop_add, bop_sub, cop_eq_int, cop_ne_int, cop_lt_int, cop_le_int, cop_gt_int, cop_ge_int, subW, items_tup, items_lst, items_new, items_ref, itemsL_lst, itemsL_new, itemsL_ref, isCell_ref, sat_bind, sat_ok]
    refine (c_draw (k + 11) hs (by decide) (by decide)).mono fun w ca z => ?_
    obtain ⟨a, rfl, a0, a1, hs, ka⟩ := z
    simp only [ev_bin, ev_cmp, ev_list, ev_tuple, ev_callH, ev_callHK, ev_callP, ev_callPK, ev_blt, ev_sub, ev_neg, ev_not, ev_and, ev_or, ev_isi, ev_int, ev_str, ev_bl, ev_non, ev_var, ev_glob, ev_cel, ev_listJ, ev_meth, ev_sortS, ev_slice, evs_cons, evs_nil, evO_none, evO_some, evC_none, evC_some, evI_ex, evI_range, evI_enum, stillW_tup, srcOf_tup, srcOf_lst, srcOf_new, put_nm, put_tp, putS_cons, putS_nil, wipe_cons, wipe_nil, List.getElem?_cons_succ, List.getElem?_cons_zero, List.set_cons_succ, List.set_cons_zero, bind_ok, noX_ok, ofO_some, fz_int, fz_bl, fz_str, fz_ref, fz_lst, fz_new, fz_tup, fz_scr, fz_non, truth_bl, Bool.not_true, Bool.not_false, bop_add, bop_sub, cop_eq_int, cop_ne_int, cop_lt_int, cop_le_int, cop_gt_int, cop_ge_int, subW, items_tup, items_lst, items_new, items_ref, itemsL_lst, itemsL_new, itemsL_ref, isCell_ref, sat_bind, sat_ok]
    rw [mkNew_ok (by simp)]
    simp only [ev_bin, ev_cmp, ev_list, ev_tuple, ev_callH, ev_callHK, ev_callP, ev_callPK, ev_blt, ev_sub, ev_neg, ev_not, ev_and, ev_or, ev_isi, ev_int, ev_str, ev_bl, ev_non, ev_var, ev_glob, ev_cel, ev_listJ, ev_meth, ev_sortS, ev_slice, evs_cons, evs_nil, evO_none, evO_some, evC_none, evC_some, evI_ex, evI_range, evI_enum, stillW_tup, srcOf_tup, srcOf_lst, srcOf_new, put_nm, put_tp, putS_cons, putS_nil, wipe_cons, wipe_nil, List.getElem?_cons_succ, List.getElem?_cons_zero, List.set_cons_succ, List.set_cons_zero, bind_ok, noX_ok, ofO_some, fz_int, fz_bl, fz_str, fz_ref, fz_lst, fz_new, fz_tup, fz_scr, fz_non, truth_bl, Bool.not_true, Bool.not_false, bop_add, bop_sub, cop_eq_int, cop_ne_int, cop_lt_int, cop_le_int, cop_gt_int, cop_ge_int, subW, items_tup, items_lst, items_new, items_ref, itemsL_lst, itemsL_new, itemsL_ref, isCell_ref, sat_bind, sat_ok]
    refine (c_draw (k + 11) hs (by decide) (by decide)).mono fun w cd z => ?_
    obtain ⟨d, rfl, d0, d1, hs, kd⟩ := z
    obtain ⟨x, e1, x1, x2, x3, x4⟩ := at_8 (d := a) d0 d1 a0
    simp only [ev_bin, ev_cmp, ev_list, ev_tuple, ev_callH, ev_callHK, ev_callP, ev_callPK, ev_blt, ev_sub, ev_neg, ev_not, ev_and, ev_or, ev_isi, ev_int, ev_str, ev_bl, ev_non, ev_var, ev_glob, ev_cel, ev_listJ, ev_meth, ev_sortS, ev_slice, evs_cons, evs_nil, evO_none, evO_some, evC_none, evC_some, evI_ex, evI_range, evI_enum, stillW_tup, srcOf_tup, srcOf_lst, srcOf_new, put_nm, put_tp, putS_cons, putS_nil, wipe_cons, wipe_nil, List.getElem?_cons_succ, List.getElem?_cons_zero, List.set_cons_succ, List.set_cons_zero, bind_ok, noX_ok, ofO_some, fz_int, fz_bl, fz_str, fz_ref, fz_lst, fz_new, fz_tup, fz_scr, fz_non, truth_bl, Bool.not_true, Bool.not_false, bop_add, bop_sub, cop_eq_int, cop_ne_int, cop_lt_int, cop_le_int, cop_gt_int, cop_ge_int, subW, items_tup, items_lst, items_new, items_ref, itemsL_lst, itemsL_new, itemsL_ref, isCell_ref, sat_bind, sat_ok, e1, gd_fz x2]
    exact ⟨_, rfl, x, x1, x2, x3, x4, hs, rfl⟩
  clear hs
  rintro ρ cs4 ⟨wr, v1, v2, v3, v4, hs, rfl⟩
  refine step b_law 20 rfl (M21 sc) ?_ h
  refine sat_set ?_
  simp only [ev_bin, ev_cmp, ev_list, ev_tuple, ev_callH, ev_callHK, ev_callP, ev_callPK, ev_blt, ev_sub, ev_neg, ev_not, ev_and, ev_or, ev_isi, ev_int, ev_str, ev_bl, ev_non, ev_var, ev_glob, ev_cel, ev_listJ, ev_meth, ev_sortS, ev_slice, evs_cons, evs_nil, evO_none, evO_some, evC_none, evC_some, evI_ex, evI_range, evI_enum, stillW_tup, srcOf_tup, srcOf_lst, srcOf_new, put_nm, put_tp, putS_cons, putS_nil, wipe_cons, wipe_nil, List.getElem?_cons_succ, List.getElem?_cons_zero, List.set_cons_succ, List.set_cons_zero, bind_ok, noX_ok, ofO_some, fz_int, fz_bl, fz_str, fz_ref, fz_lst, fz_new, fz_tup, fz_scr, fz_non, truth_bl, Bool.not_true, Bool.not_false, bop_add, bop_sub, cop_eq_int, cop_ne_int, cop_lt_int, cop_le_int, cop_gt_int, cop_ge_int, subW, items_tup, items_lst, items_new, items_ref, itemsL_lst, itemsL_new, itemsL_ref, isCell_ref, sat_bind, sat_ok]
  refine (c_wrong_rows (k + 10) hn hL hs).mono fun w cb z => ?_
  obtain ⟨r, rfl, hw⟩ := z
  simp only [ev_bin, ev_cmp, ev_list, ev_tuple, ev_callH, ev_callHK, ev_callP, ev_callPK, ev_blt, ev_sub, ev_neg, ev_not, ev_and, ev_or, ev_isi, ev_int, ev_str, ev_bl, ev_non, ev_var, ev_glob, ev_cel, ev_listJ, ev_meth, ev_sortS, ev_slice, evs_cons, evs_nil, evO_none, evO_some, evC_none, evC_some, evI_ex, evI_range, evI_enum, stillW_tup, srcOf_tup, srcOf_lst, srcOf_new, put_nm, put_tp, putS_cons, putS_nil, wipe_cons, wipe_nil, List.getElem?_cons_succ, List.getElem?_cons_zero, List.set_cons_succ, List.set_cons_zero, bind_ok, noX_ok, ofO_some, fz_int, fz_bl, fz_str, fz_ref, fz_lst, fz_new, fz_tup, fz_scr, fz_non, truth_bl, Bool.not_true, Bool.not_false, bop_add, bop_sub, cop_eq_int, cop_ne_int, cop_lt_int, cop_le_int, cop_gt_int, cop_ge_int, subW, items_tup, items_lst, items_new, items_ref, itemsL_lst, itemsL_new, itemsL_ref, isCell_ref, sat_bind, sat_ok]
  exact ⟨_, rfl, nm, _, _, _, _, _, _, wr, n, L, r, cs4, hn, hL, v1, v2, v3, v4, hw, rfl⟩
theorem Wr.keep {n r c : Nat} {cs cs1 cs2 : List Ob} (h : Wr n cs r c cs1) (hs : Sr cs2) (hx : Ext cs1 cs2) : Wr n cs r c cs2 := by
  obtain ⟨bads, e, h0, h1, h2⟩ := h.ex
  have := h.r3
  exact ⟨⟨bads, hx.cell e (by omega) (by omega), h0, h1, h2⟩, hs, h.ext.trans hx, h.r3, h.rg⟩
theorem law_end (k : Nat) {ρ : ME} {cs : List Ob} (h21 : M21 sc ρ cs) : Sat (runs (XX.O (k + 12)) (drop 21 b_law) ρ cs) fun fl _ => fl = .ret (.bl true) := by
  obtain ⟨nm, w2, w3, w4, w5, w6, w8, wr, n, L, r, cs0, hn, hL, v1, v2, v3, v4, hw, rfl⟩ := h21
  have ll := hL.len hn
  have pl : ∀ cs, callP (XX.O (k + 12)) 15 [.int (n : Int), tI L] cs = .ok (PL (plc n L)) cs := fun cs => (p_law_placed (k + 11) hn ll hL.lo).call (derefL_cons' rfl (derefL_cons' (deref_tI cs L) derefL_nil'))
  have zr := gd_fz v2
  refine step b_law 21 rfl (fun ρ' cs => Wr n cs0 r 12 cs ∧ ρ' = [some sc, some (.ref 2), some w2, some w3, some w4, some w5, some w6, some (.int nm), some w8, some (.int (n : Int)), some (tI L), some wr, some (.ref r), none]) ?_ ?_
  · refine sat_if ?_
    simp only [ev_bin, ev_cmp, ev_list, ev_tuple, ev_callH, ev_callHK, ev_callP, ev_callPK, ev_blt, ev_sub, ev_neg, ev_not, ev_and, ev_or, ev_isi, ev_int, ev_str, ev_bl, ev_non, ev_var, ev_glob, ev_cel, ev_listJ, ev_meth, ev_sortS, ev_slice, evs_cons, evs_nil, evO_none, evO_some, evC_none, evC_some, evI_ex, evI_range, evI_enum, stillW_tup, srcOf_tup, srcOf_lst, srcOf_new, put_nm, put_tp, putS_cons, putS_nil, wipe_cons, wipe_nil, List.getElem?_cons_succ, List.getElem?_cons_zero, List.set_cons_succ, List.set_cons_zero, bind_ok, noX_ok, ofO_some, fz_int, fz_bl, fz_str, fz_ref, fz_lst, fz_new, fz_tup, fz_scr, fz_non, truth_bl, Bool.not_true, Bool.not_false, bop_add, bop_sub, cop_eq_int, cop_ne_int, cop_lt_int, cop_le_int, cop_gt_int, cop_ge_int, subW, items_tup, items_lst, items_new, items_ref, itemsL_lst, itemsL_new, itemsL_ref, isCell_ref, sat_bind, sat_ok, zr]
    refine (c_ask_number (k + 8) (w := tI L) (nm := nm) v1 (gd_mono (by omega) v2) v3 v4 rfl).mono fun w cs1 z => ?_
    obtain ⟨rfl, rfl⟩ := z
    rw [mkTup_ok (show [W.str "number", wr].length ≤ 100000 by simp)]
    simp only [ev_bin, ev_cmp, ev_list, ev_tuple, ev_callH, ev_callHK, ev_callP, ev_callPK, ev_blt, ev_sub, ev_neg, ev_not, ev_and, ev_or, ev_isi, ev_int, ev_str, ev_bl, ev_non, ev_var, ev_glob, ev_cel, ev_listJ, ev_meth, ev_sortS, ev_slice, evs_cons, evs_nil, evO_none, evO_some, evC_none, evC_some, evI_ex, evI_range, evI_enum, stillW_tup, srcOf_tup, srcOf_lst, srcOf_new, put_nm, put_tp, putS_cons, putS_nil, wipe_cons, wipe_nil, List.getElem?_cons_succ, List.getElem?_cons_zero, List.set_cons_succ, List.set_cons_zero, bind_ok, noX_ok, ofO_some, fz_int, fz_bl, fz_str, fz_ref, fz_lst, fz_new, fz_tup, fz_scr, fz_non, truth_bl, Bool.not_true, Bool.not_false, bop_add, bop_sub, cop_eq_int, cop_ne_int, cop_lt_int, cop_le_int, cop_gt_int, cop_ge_int, subW, items_tup, items_lst, items_new, items_ref, itemsL_lst, itemsL_new, itemsL_ref, isCell_ref, sat_bind, sat_ok, same_c k (w := .tup [.str "number", wr]) (gd_told (k := 4) (gd_mono (by omega) v2))]
    exact sat_nil ⟨_, rfl, hw, rfl⟩
  clear hw
  rintro ρ cs1 ⟨hw, rfl⟩
  refine step b_law 22 rfl (fun ρ' cs => Wr n cs0 r 12 cs ∧ ρ' = [some sc, some (.ref 2), some w2, some w3, some w4, some w5, some w6, some (.int nm), some w8, some (.int (n : Int)), some (tI L), some wr, some (.ref r), none]) ?_ ?_
  · refine sat_if ?_
    obtain ⟨bads, e, h0, h1, h2⟩ := hw.ex
    have l0 : 0 < bads.length := List.length_pos_iff.mpr h0
    simp only [ev_bin, ev_cmp, ev_list, ev_tuple, ev_callH, ev_callHK, ev_callP, ev_callPK, ev_blt, ev_sub, ev_neg, ev_not, ev_and, ev_or, ev_isi, ev_int, ev_str, ev_bl, ev_non, ev_var, ev_glob, ev_cel, ev_listJ, ev_meth, ev_sortS, ev_slice, evs_cons, evs_nil, evO_none, evO_some, evC_none, evC_some, evI_ex, evI_range, evI_enum, stillW_tup, srcOf_tup, srcOf_lst, srcOf_new, put_nm, put_tp, putS_cons, putS_nil, wipe_cons, wipe_nil, List.getElem?_cons_succ, List.getElem?_cons_zero, List.set_cons_succ, List.set_cons_zero, bind_ok, noX_ok, ofO_some, fz_int, fz_bl, fz_str, fz_ref, fz_lst, fz_new, fz_tup, fz_scr, fz_non, truth_bl, Bool.not_true, Bool.not_false, bop_add, bop_sub, cop_eq_int, cop_ne_int, cop_lt_int, cop_le_int, cop_gt_int, cop_ge_int, subW, items_tup, items_lst, items_new, items_ref, itemsL_lst, itemsL_new, itemsL_ref, isCell_ref, sat_bind, sat_ok, zr, blt_len_ref e]
    refine (c_draw (k + 11) hw.sr (by omega) (by omega)).mono fun w ca z => ?_
    obtain ⟨a, rfl, a0, a1, hs, ka⟩ := z
    have hw' := hw.draw hs ka
    obtain ⟨j, rfl⟩ : ∃ q : Nat, a = (q : Int) := ⟨a.toNat, by omega⟩
    have hj : j < bads.length := by omega
    have e' : cellL ca r = some bads := by have := hw.r3; rw [ka.cell (by omega) (by omega)]; exact e
    have eb : at? bads (j : Int) = some bads[j] := by
      rw [at?, place_nat hj]
      show bads[j]? = _
      rw [List.getElem?_eq_getElem hj]
    have hb := h2 _ (List.getElem_mem hj)
    simp only [ev_bin, ev_cmp, ev_list, ev_tuple, ev_callH, ev_callHK, ev_callP, ev_callPK, ev_blt, ev_sub, ev_neg, ev_not, ev_and, ev_or, ev_isi, ev_int, ev_str, ev_bl, ev_non, ev_var, ev_glob, ev_cel, ev_listJ, ev_meth, ev_sortS, ev_slice, evs_cons, evs_nil, evO_none, evO_some, evC_none, evC_some, evI_ex, evI_range, evI_enum, stillW_tup, srcOf_tup, srcOf_lst, srcOf_new, put_nm, put_tp, putS_cons, putS_nil, wipe_cons, wipe_nil, List.getElem?_cons_succ, List.getElem?_cons_zero, List.set_cons_succ, List.set_cons_zero, bind_ok, noX_ok, ofO_some, fz_int, fz_bl, fz_str, fz_ref, fz_lst, fz_new, fz_tup, fz_scr, fz_non, truth_bl, Bool.not_true, Bool.not_false, bop_add, bop_sub, cop_eq_int, cop_ne_int, cop_lt_int, cop_le_int, cop_gt_int, cop_ge_int, subW, items_tup, items_lst, items_new, items_ref, itemsL_lst, itemsL_new, itemsL_ref, isCell_ref, sat_bind, sat_ok, e', eb, gd_fz hb.gd]
    refine (c_ask_number (k + 8) (w := bads[j]) (nm := 1 - nm) v1 (gd_mono (by omega) v2) v3 v4 (gd_fz hb.gd)).mono fun w cs1 z => ?_
    obtain ⟨rfl, rfl⟩ := z
    rw [mkTup_ok (show [W.str "number", wr].length ≤ 100000 by simp)]
    simp only [ev_bin, ev_cmp, ev_list, ev_tuple, ev_callH, ev_callHK, ev_callP, ev_callPK, ev_blt, ev_sub, ev_neg, ev_not, ev_and, ev_or, ev_isi, ev_int, ev_str, ev_bl, ev_non, ev_var, ev_glob, ev_cel, ev_listJ, ev_meth, ev_sortS, ev_slice, evs_cons, evs_nil, evO_none, evO_some, evC_none, evC_some, evI_ex, evI_range, evI_enum, stillW_tup, srcOf_tup, srcOf_lst, srcOf_new, put_nm, put_tp, putS_cons, putS_nil, wipe_cons, wipe_nil, List.getElem?_cons_succ, List.getElem?_cons_zero, List.set_cons_succ, List.set_cons_zero, bind_ok, noX_ok, ofO_some, fz_int, fz_bl, fz_str, fz_ref, fz_lst, fz_new, fz_tup, fz_scr, fz_non, truth_bl, Bool.not_true, Bool.not_false, bop_add, bop_sub, cop_eq_int, cop_ne_int, cop_lt_int, cop_le_int, cop_gt_int, cop_ge_int, subW, items_tup, items_lst, items_new, items_ref, itemsL_lst, itemsL_new, itemsL_ref, isCell_ref, sat_bind, sat_ok, same_c k (w := .tup [.str "number", wr]) (gd_told (k := 4) (gd_mono (by omega) v2))]
    exact sat_nil ⟨_, rfl, hw', rfl⟩
  clear hw
  rintro ρ cs2 ⟨hw, rfl⟩
  refine step b_law 23 rfl (fun ρ' cs => Sr cs ∧ ∃ o, ρ' = [some sc, some (.ref 2), some w2, some w3, some w4, some w5, some w6, some (.int nm), some w8, some (.int (n : Int)), some (tI L), some wr, some (.ref r), o]) ?_ ?_
  · obtain ⟨bads, e, h0, h1, h2⟩ := hw.ex
    have r3 := hw.r3
    rw [run]
    have es : evI (XX.O (k + 12)) [some sc, some (.ref 2), some w2, some w3, some w4, some w5, some w6, some (.int nm), some w8, some (.int (n : Int)), some (tI L), some wr, some (.ref r), none] (.ex (.var 12)) cs2 = .ok (.ce r bads.length) cs2 := by
      simp only [ev_bin, ev_cmp, ev_list, ev_tuple, ev_callH, ev_callHK, ev_callP, ev_callPK, ev_blt, ev_sub, ev_neg, ev_not, ev_and, ev_or, ev_isi, ev_int, ev_str, ev_bl, ev_non, ev_var, ev_glob, ev_cel, ev_listJ, ev_meth, ev_sortS, ev_slice, evs_cons, evs_nil, evO_none, evO_some, evC_none, evC_some, evI_ex, evI_range, evI_enum, stillW_tup, srcOf_tup, srcOf_lst, srcOf_new, put_nm, put_tp, putS_cons, putS_nil, wipe_cons, wipe_nil, List.getElem?_cons_succ, List.getElem?_cons_zero, List.set_cons_succ, List.set_cons_zero, bind_ok, noX_ok, ofO_some, fz_int, fz_bl, fz_str, fz_ref, fz_lst, fz_new, fz_tup, fz_scr, fz_non, truth_bl, Bool.not_true, Bool.not_false, bop_add, bop_sub, cop_eq_int, cop_ne_int, cop_lt_int, cop_le_int, cop_gt_int, cop_ge_int, subW, items_tup, items_lst, items_new, items_ref, itemsL_lst, itemsL_new, itemsL_ref, isCell_ref, sat_bind, sat_ok, srcOf, e, Option.map_some]
    rw [es, bind_ok, forS]
    refine sat_forCe (I := fun i k ρ cs => i + k = bads.length ∧ Sr cs ∧ cellL cs r = some bads ∧ ∃ o, ρ = [some sc, some (.ref 2), some w2, some w3, some w4, some w5, some w6, some (.int nm), some w8, some (.int (n : Int)), some (tI L), some wr, some (.ref r), o]) ?_ ?_ _ _ _ _ ⟨Nat.zero_add _, hw.sr, e, none, rfl⟩
    · rintro i m ρ cs3 ⟨him, hs, e3, o, rfl⟩
      have hi : i < bads.length := by omega
      have hb := h2 _ (List.getElem_mem hi)
      have zb := gd_fz hb.gd
      refine ⟨bads, bads[i], e3, List.getElem?_eq_getElem hi, ?_⟩
      simp only [ev_bin, ev_cmp, ev_list, ev_tuple, ev_callH, ev_callHK, ev_callP, ev_callPK, ev_blt, ev_sub, ev_neg, ev_not, ev_and, ev_or, ev_isi, ev_int, ev_str, ev_bl, ev_non, ev_var, ev_glob, ev_cel, ev_listJ, ev_meth, ev_sortS, ev_slice, evs_cons, evs_nil, evO_none, evO_some, evC_none, evC_some, evI_ex, evI_range, evI_enum, stillW_tup, srcOf_tup, srcOf_lst, srcOf_new, put_nm, put_tp, putS_cons, putS_nil, wipe_cons, wipe_nil, List.getElem?_cons_succ, List.getElem?_cons_zero, List.set_cons_succ, List.set_cons_zero, bind_ok, noX_ok, ofO_some, fz_int, fz_bl, fz_str, fz_ref, fz_lst, fz_new, fz_tup, fz_scr, fz_non, truth_bl, Bool.not_true, Bool.not_false, bop_add, bop_sub, cop_eq_int, cop_ne_int, cop_lt_int, cop_le_int, cop_gt_int, cop_ge_int, subW, items_tup, items_lst, items_new, items_ref, itemsL_lst, itemsL_new, itemsL_ref, isCell_ref, sat_bind, sat_ok, zb]
      refine sat_cons (sat_if ?_)
      simp only [ev_bin, ev_cmp, ev_list, ev_tuple, ev_callH, ev_callHK, ev_callP, ev_callPK, ev_blt, ev_sub, ev_neg, ev_not, ev_and, ev_or, ev_isi, ev_int, ev_str, ev_bl, ev_non, ev_var, ev_glob, ev_cel, ev_listJ, ev_meth, ev_sortS, ev_slice, evs_cons, evs_nil, evO_none, evO_some, evC_none, evC_some, evI_ex, evI_range, evI_enum, stillW_tup, srcOf_tup, srcOf_lst, srcOf_new, put_nm, put_tp, putS_cons, putS_nil, wipe_cons, wipe_nil, List.getElem?_cons_succ, List.getElem?_cons_zero, List.set_cons_succ, List.set_cons_zero, bind_ok, noX_ok, ofO_some, fz_int, fz_bl, fz_str, fz_ref, fz_lst, fz_new, fz_tup, fz_scr, fz_non, truth_bl, Bool.not_true, Bool.not_false, bop_add, bop_sub, cop_eq_int, cop_ne_int, cop_lt_int, cop_le_int, cop_gt_int, cop_ge_int, subW, items_tup, items_lst, items_new, items_ref, itemsL_lst, itemsL_new, itemsL_ref, isCell_ref, sat_bind, sat_ok, zb]
      refine (c_ask_lot (k + 8) (nm := nm) hn hb.row hb.no).mono fun w cs1 z => ?_
      obtain ⟨rfl, rfl⟩ := z
      rw [mkTup_ok (show [W.str "lot", bads[i]].length ≤ 100000 by simp)]
      simp only [ev_bin, ev_cmp, ev_list, ev_tuple, ev_callH, ev_callHK, ev_callP, ev_callPK, ev_blt, ev_sub, ev_neg, ev_not, ev_and, ev_or, ev_isi, ev_int, ev_str, ev_bl, ev_non, ev_var, ev_glob, ev_cel, ev_listJ, ev_meth, ev_sortS, ev_slice, evs_cons, evs_nil, evO_none, evO_some, evC_none, evC_some, evI_ex, evI_range, evI_enum, stillW_tup, srcOf_tup, srcOf_lst, srcOf_new, put_nm, put_tp, putS_cons, putS_nil, wipe_cons, wipe_nil, List.getElem?_cons_succ, List.getElem?_cons_zero, List.set_cons_succ, List.set_cons_zero, bind_ok, noX_ok, ofO_some, fz_int, fz_bl, fz_str, fz_ref, fz_lst, fz_new, fz_tup, fz_scr, fz_non, truth_bl, Bool.not_true, Bool.not_false, bop_add, bop_sub, cop_eq_int, cop_ne_int, cop_lt_int, cop_le_int, cop_gt_int, cop_ge_int, subW, items_tup, items_lst, items_new, items_ref, itemsL_lst, itemsL_new, itemsL_ref, isCell_ref, sat_bind, sat_ok, same_c k (w := .tup [.str "lot", bads[i]]) (gd_told (k := 4) (gd_mono (by omega) hb.gd))]
      exact sat_nil (sat_nil ⟨by omega, hs, e3, _, rfl⟩)
    · rintro i ρ cs3 ⟨him, hs, e3, o, rfl⟩
      exact ⟨⟨bads, e3, by omega⟩, _, rfl, hs, o, rfl⟩
  clear hw
  rintro ρ cs3 ⟨hs, o, rfl⟩
  refine step' b_law 24 rfl (sat_ret ?_)
  simp only [ev_bin, ev_cmp, ev_list, ev_tuple, ev_callH, ev_callHK, ev_callP, ev_callPK, ev_blt, ev_sub, ev_neg, ev_not, ev_and, ev_or, ev_isi, ev_int, ev_str, ev_bl, ev_non, ev_var, ev_glob, ev_cel, ev_listJ, ev_meth, ev_sortS, ev_slice, evs_cons, evs_nil, evO_none, evO_some, evC_none, evC_some, evI_ex, evI_range, evI_enum, stillW_tup, srcOf_tup, srcOf_lst, srcOf_new, put_nm, put_tp, putS_cons, putS_nil, wipe_cons, wipe_nil, List.getElem?_cons_succ, List.getElem?_cons_zero, List.set_cons_succ, List.set_cons_zero, bind_ok, noX_ok, ofO_some, fz_int, fz_bl, fz_str, fz_ref, fz_lst, fz_new, fz_tup, fz_scr, fz_non, truth_bl, Bool.not_true, Bool.not_false, bop_add, bop_sub, cop_eq_int, cop_ne_int, cop_lt_int, cop_le_int, cop_gt_int, cop_ge_int, subW, items_tup, items_lst, items_new, items_ref, itemsL_lst, itemsL_new, itemsL_ref, isCell_ref, sat_bind, sat_ok]
  refine (c_ask (k + 8) (n := n) (nm := nm) hn ll hL.up hL.lo).mono fun w cs1 z => ?_
  obtain ⟨rfl, x, rfl⟩ := z
  simp only [ev_bin, ev_cmp, ev_list, ev_tuple, ev_callH, ev_callHK, ev_callP, ev_callPK, ev_blt, ev_sub, ev_neg, ev_not, ev_and, ev_or, ev_isi, ev_int, ev_str, ev_bl, ev_non, ev_var, ev_glob, ev_cel, ev_listJ, ev_meth, ev_sortS, ev_slice, evs_cons, evs_nil, evO_none, evO_some, evC_none, evC_some, evI_ex, evI_range, evI_enum, stillW_tup, srcOf_tup, srcOf_lst, srcOf_new, put_nm, put_tp, putS_cons, putS_nil, wipe_cons, wipe_nil, List.getElem?_cons_succ, List.getElem?_cons_zero, List.set_cons_succ, List.set_cons_zero, bind_ok, noX_ok, ofO_some, fz_int, fz_bl, fz_str, fz_ref, fz_lst, fz_new, fz_tup, fz_scr, fz_non, truth_bl, Bool.not_true, Bool.not_false, bop_add, bop_sub, cop_eq_int, cop_ne_int, cop_lt_int, cop_le_int, cop_gt_int, cop_ge_int, subW, items_tup, items_lst, items_new, items_ref, itemsL_lst, itemsL_new, itemsL_ref, isCell_ref, sat_bind, sat_ok, pl, fz_PL]
  rw [mkTup_ok (show [W.str "told", PL (plc n L)].length ≤ 100000 by simp)]
  simp only [ev_bin, ev_cmp, ev_list, ev_tuple, ev_callH, ev_callHK, ev_callP, ev_callPK, ev_blt, ev_sub, ev_neg, ev_not, ev_and, ev_or, ev_isi, ev_int, ev_str, ev_bl, ev_non, ev_var, ev_glob, ev_cel, ev_listJ, ev_meth, ev_sortS, ev_slice, evs_cons, evs_nil, evO_none, evO_some, evC_none, evC_some, evI_ex, evI_range, evI_enum, stillW_tup, srcOf_tup, srcOf_lst, srcOf_new, put_nm, put_tp, putS_cons, putS_nil, wipe_cons, wipe_nil, List.getElem?_cons_succ, List.getElem?_cons_zero, List.set_cons_succ, List.set_cons_zero, bind_ok, noX_ok, ofO_some, fz_int, fz_bl, fz_str, fz_ref, fz_lst, fz_new, fz_tup, fz_scr, fz_non, truth_bl, Bool.not_true, Bool.not_false, bop_add, bop_sub, cop_eq_int, cop_ne_int, cop_lt_int, cop_le_int, cop_gt_int, cop_ge_int, subW, items_tup, items_lst, items_new, items_ref, itemsL_lst, itemsL_new, itemsL_ref, isCell_ref, sat_bind, sat_ok, same_c k (w := .tup [.str "told", PL (plc n L)]) (gd_told (k := 4) (gd_plc (k := 2) hn ll))]
theorem law_true {ns : List Int} (hl : ns.length ≤ 63) : ∃ cs, Mi.calls (defs.map (·.d)) (So.gOf consts) 3000 13 19 [.scr (ns.map Mi.W.int)] [] = .ok (.bl true) cs := by
  have q : Sat (XX.C 13 19 [.scr (nums ns)] []) fun w _ => w = .bl true := by
    refine Ctx.sat_of (k := 12) at_law (by rfl) ?_
    refine (law_10 0 hl fun ρ cs h10 => law_16 0 h10 fun ρ cs h16 => law_21 0 h16 fun ρ cs h21 => law_end 0 h21).mono fun fl cs z => ?_
    rw [z]
  obtain ⟨w, cs, e, rfl⟩ := q.ex
  exact ⟨cs, e⟩
end K85
end S_K85w

section S_K85z
set_option Elab.async false
set_option linter.all false
theorem PySem.Challenge.cw_everycopy_k85_whole_copies_as_numbers_holds : PySem.Challenge.rw_everycopy_k85_whole_copies_as_numbers.Holds :=
  K85.holds_of (fuel := 3000) (k := 12) (by decide) fun ns hl => K85.law_true hl
end S_K85z
