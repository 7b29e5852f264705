import PyProof.Rows.All
import Wide.All
import OpenK.AllK
import Wide.FinOn
import HandS.ForMost
import KE.LtData
import HandS.TupAny
import HandS.TupMul
import HandS.Wide
import HandS.Deep
import HandS.Style
import HandS.IsInst
import HandS.TupLe
import HandS.Conv
import HandS.Zip
import HandS.RevRange
import HandS.Star
import KE.KRevSl
import HandS.TryOnly
import KE.SortKeyHeap
import HandS.Codes
import HandS.SortKw
import HandS.TupSets
import KE.DataMinKey
import KE.KStateDown
import Lean
import HandS.Words
import HandS.WordsExc
import HandS.Defaults
import HandS.Head0
import HandS.Head1
import HandS.Head2
import HandS.HeadEnd
import HandS.HeadHook1
import HandS.HeadHook2
import HandS.HeadHook4
import PySem.Challenge.RW_versionspans_k21_published_versions_chos
set_option Elab.async false
set_option linter.all false
set_option maxRecDepth 100000
set_option maxHeartbeats 8000000
set_option Elab.async false
set_option linter.all false
/-! EvA: a small language (T, S) for the laws' Python, its plain data (D) and its evaluator. No heap. -/
namespace Ev
open PySem

abbrev D := PyData
/-- what an expression gives: a datum, a list that nobody else holds, a list that a name holds -/
inductive R where
  | val (d : D)
  | own (xs : List D)
  | bor (xs : List D)
def R.look : R → D
  | .val d => d
  | .own xs => .list xs
  | .bor xs => .list xs
def R.fix : R → Option D
  | .val d => some d
  | .own xs => some (.list xs)
  | .bor _ => none
def isAtom : D → Bool
  | .none | .bool _ | .int _ | .str _ => true
  | _ => false

inductive BOp where
  | add | sub | mul | fdiv | mod | pow
inductive COp where
  | eq | ne | lt | le | gt | ge | isin | notin | iss | isnot
inductive Bi where
  | len | all | any | sum | max1 | max2 | min2 | tuple | list | int | str | sset | lset | dict
  | join | split | partition | startswith | endswith | get | get2 | sorted
inductive Tgt where
  | name (i : Nat)
  | tup (is : List Nat)
mutual
inductive T where
  | var (i : Nat)
  | cst (d : D)
  | glob (x : Str)
  | tup (es : Ts)
  | lst (es : Ts)
  | dct (ks : List Str) (es : Ts)
  | bin (o : BOp) (a b : T)
  | neg (a : T)
  | not (a : T)
  | and (a b : T)
  | or (a b : T)
  | orv (a b : T)
  | lrng (a : T)
  | cmp (o : COp) (a b : T)
  | cmp2 (o o' : COp) (a b c : T)
  | ite (c a b : T)
  | sub (a i : T)
  | slf (a lo : T)
  | slt (a hi : T)
  | rev (a : T)
  | stp (a k : T)
  | tget (i : T)
  | call (f : Str) (es : Ts)
  | callT (f : Str) (es : Ts)
  | bi (b : Bi) (es : Ts)
  | isi (a : T) (tys : List String)
  | srt (a : T) (f : Str)
  | best (mx : Bool) (a : T) (f : Str)
  | comp (tg : Tgt) (it : I) (c : T) (g : Ge)
inductive Ts where
  | nil
  | cons (t : T) (ts : Ts)
  | star (t : T) (ts : Ts)
/-- what a comprehension gives at a turn: an element, or those of one more clause -/
inductive Ge where
  | elt (e : T)
  | for_ (tg : Tgt) (it : I) (c : T) (g : Ge)
/-- what is walked -/
inductive I where
  | ex (t : T)
  | rng (t : T)
  | zip (a b : T)
  | enum (a : T)
  | revr (t : T)
end
mutual
inductive S where
  | set (i : Nat) (e : T)
  | setO (i : Nat) (e : T)
  | par (is : List (Nat × Bool)) (es : Ts)
  | unp (is : List Nat) (e : T)
  | aug (i : Nat) (o : BOp) (e : T)
  | app (i : Nat) (e : T)
  | seti (i : Nat) (ix e : T)
  | popv (j i : Nat)
  | popat (i : Nat) (ix : T)
  | ins (i : Nat) (ix e : T)
  | tini (i : Nat) (e : T)
  | tset (ix e : T)
  | ite (c : T) (a b : Ss)
  | for_ (tg : Tgt) (it : I) (body : Ss)
  | while_ (c : T) (body : Ss)
  | ret (e : T)
  | frz (i : Nat)
  | pass
inductive Ss where
  | nil
  | cons (s : S) (ss : Ss)
end

/-- the drawing list, handed on -/
abbrev Tape := List D
abbrev M (α : Type) := Tape → Option (α × Tape)
def ret {α : Type} (a : α) : M α := fun t => some (a, t)
def bnd {α β : Type} (m : M α) (f : α → M β) : M β := fun t => match m t with
  | some (a, t') => f a t'
  | none => none
def lift {α : Type} : Option α → M α
  | some a => ret a
  | none => fun _ => none
theorem bnd_ret {α β : Type} (a : α) (f : α → M β) : bnd (ret a) f = f a := rfl
theorem bnd_lift_some {α β : Type} (a : α) (f : α → M β) : bnd (lift (some a)) f = f a := rfl
theorem lift_some {α : Type} (a : α) : lift (some a) = ret a := rfl
theorem ret_ap {α : Type} (a : α) (t : Tape) : ret a t = some (a, t) := rfl
theorem bnd_of {α β : Type} {m : M α} {f : α → M β} {t t' : Tape} {a : α} (h : m t = some (a, t')) : bnd m f t = f a t' := by
  unfold bnd
  rw [h]

abbrev Env := List (Option R)

def isNone : D → Bool
  | .none => true
  | _ => false
/-- the most items of a list, a tuple, a text -/
abbrev big : Nat := 16777216
mutual
/-- a datum that the model compares: texts of signs, no dict, not too deep -/
def ok : Nat → D → Bool
  | _, .none | _, .bool _ | _, .int _ => true
  | _, .str x => PyData.strOk x
  | n, .list xs => match n with
    | 0 => false
    | n + 1 => okAll n xs
  | n, .tuple xs => match n with
    | 0 => false
    | n + 1 => okAll n xs
  | _, .dict _ => false
def okAll : Nat → List D → Bool
  | _, [] => true
  | n, x :: xs => ok n x && okAll n xs
end
/-- the items of a list or a tuple -/
def items : D → Option (List D)
  | .list xs => some xs
  | .tuple xs => some xs
  | _ => none
def intsD : List D → Option (List Int)
  | [] => some []
  | .int i :: r => match intsD r with
    | some is => some (i :: is)
    | none => none
  | _ => none
def boolsD : List D → Option (List Bool)
  | [] => some []
  | .bool i :: r => match boolsD r with
    | some is => some (i :: is)
    | none => none
  | _ => none
def strsD : List D → Option (List Str)
  | [] => some []
  | .str i :: r => match strsD r with
    | some is => some (i :: is)
    | none => none
  | _ => none
/-- a product that the model knows -/
@[irreducible] def mulOk (i j : Int) : Bool := decide (-(2 ^ 64) < i ∧ i < 2 ^ 64) || decide (-(2 ^ 64) < j ∧ j < 2 ^ 64) || decide (i.natAbs < 2 ^ 400 ∧ j.natAbs < 2 ^ 400)
def bop : BOp → D → D → Option R
  | .add, .int i, .int j => some (.val (.int (i + j)))
  | .add, .str x, .str y => if x.length + y.length ≤ big then some (.val (.str (x ++ y))) else none
  | .add, .tuple xs, .tuple ys => if xs.length + ys.length ≤ big then some (.val (.tuple (xs ++ ys))) else none
  | .add, .list xs, .list ys => if xs.length + ys.length ≤ big then some (.own (xs ++ ys)) else none
  | .sub, .int i, .int j => some (.val (.int (i - j)))
  | .mul, .int i, .int j => if mulOk i j then some (.val (.int (i * j))) else none
  | .mul, .tuple xs, .int j => if 2 ≤ j ∧ j ≤ 1000 ∧ 0 < xs.length ∧ xs.length ≤ 1000 then some (.val (.tuple (List.replicate j.toNat xs).flatten)) else none
  | .fdiv, .int i, .int j => if 0 < j ∧ j.natAbs < 2 ^ 400 then some (.val (.int (i / j))) else none
  | .mod, .int i, .int j => if 0 < j then some (.val (.int (i % j))) else none
  | .pow, .int i, .int j => if 0 ≤ j ∧ j ≤ 1000 ∧ i.natAbs < 2 ^ 64 then some (.val (.int (i ^ j.toNat))) else none
  | _, _, _ => none
def beqS (x y : Str) : Bool := decide (x = y)
def lookS (k : Str) : List (D × D) → Option D
  | (.str x, d) :: r => if beqS x k then some d else lookS k r
  | _ => none
/-- data that can be told apart by an order: each place of one kind -/
def ordI : COp → Int → Int → Bool
  | .lt, i, j => decide (i < j)
  | .le, i, j => decide (i ≤ j)
  | .gt, i, j => decide (i > j)
  | _, i, j => decide (i ≥ j)
def ordN : COp → Nat → Nat → Bool
  | .lt, i, j => decide (i < j)
  | .le, i, j => decide (i ≤ j)
  | .gt, i, j => decide (i > j)
  | _, i, j => decide (i ≥ j)
def ordS : COp → List Nat → List Nat → Bool
  | .lt, i, j => decide (i < j)
  | .le, i, j => !decide (j < i)
  | .gt, i, j => decide (j < i)
  | _, i, j => !decide (i < j)
mutual
def alk : D → D → Bool
  | .none, .none => true
  | .int _, .int _ => true
  | .str _, .str _ => true
  | .list xs, .list ys => alkAll xs ys
  | .tuple xs, .tuple ys => alkAll xs ys
  | _, _ => false
def alkAll : List D → List D → Bool
  | x :: xs, y :: ys => alk x y && alkAll xs ys
  | _, _ => true
end
mutual
/-- x op y of such data -/
def ordD (o : COp) : D → D → Bool
  | .int i, .int j => ordI o i j
  | .str x, .str y => ordS o x.cps.toList y.cps.toList
  | .list xs, .list ys => ordAll o xs ys
  | .tuple xs, .tuple ys => ordAll o xs ys
  | _, _ => false
def ordAll (o : COp) : List D → List D → Bool
  | x :: xs, y :: ys => if PyData.eqv x y then ordAll o xs ys else ordD o x y
  | xs, ys => ordN o xs.length ys.length
end
abbrev ltD : D → D → Bool := ordD .lt
def cop : COp → D → D → Option Bool
  | .eq, x, y => if ok 60 x && ok 60 y then some (PyData.eqv x y) else none
  | .ne, x, y => if ok 60 x && ok 60 y then some (!PyData.eqv x y) else none
  | .lt, x, y => if alk x y && !isNone x && ok 60 x && ok 60 y then some (ordD .lt x y) else none
  | .gt, x, y => if alk x y && !isNone x && ok 60 x && ok 60 y then some (ordD .gt x y) else none
  | .le, x, y => if alk x y && !isNone x && ok 60 x && ok 60 y then some (ordD .le x y) else none
  | .ge, x, y => if alk x y && !isNone x && ok 60 x && ok 60 y then some (ordD .ge x y) else none
  | .isin, .str x, .str y => if x.length = 1 then some (decide (x.cps.getD 0 0 ∈ y.cps.toList)) else none
  | .isin, .str x, .dict kvs => some (lookS x kvs).isSome
  | .isin, x, .list ys => if ok 60 x && okAll 60 ys then some (ys.any fun z => PyData.eqv z x) else none
  | .isin, x, .tuple ys => if ok 60 x && okAll 60 ys then some (ys.any fun z => PyData.eqv z x) else none
  | .notin, .str x, .str y => if x.length = 1 then some (!decide (x.cps.getD 0 0 ∈ y.cps.toList)) else none
  | .notin, .str x, .dict kvs => some (!(lookS x kvs).isSome)
  | .notin, x, .list ys => if ok 60 x && okAll 60 ys then some (!ys.any fun z => PyData.eqv z x) else none
  | .notin, x, .tuple ys => if ok 60 x && okAll 60 ys then some (!ys.any fun z => PyData.eqv z x) else none
  | .iss, x, .none => some (isNone x)
  | .iss, .bool x, .bool y => some (x == y)
  | .isnot, x, .none => some (!isNone x)
  | .isnot, .bool x, .bool y => some (!(x == y))
  | _, _, _ => none
def subD : D → D → Option D
  | .list xs, .int i => L2.atI xs i
  | .tuple xs, .int i => L2.atI xs i
  | .dict kvs, .str k => lookS k kvs
  | _, _ => none
/-- a[lo:], a[:hi] -/
def cutF {α : Type} (xs : List α) (i : Int) : List α := if 0 ≤ i then xs.drop i.toNat else xs.drop (xs.length - i.natAbs)
def cutT {α : Type} (xs : List α) (i : Int) : List α := if 0 ≤ i then xs.take i.toNat else xs.take (xs.length - i.natAbs)
def slfD : D → D → Option R
  | .list xs, .int i => some (.own (cutF xs i))
  | .tuple xs, .int i => some (.val (.tuple (cutF xs i)))
  | .str x, .int i => some (.val (.str ⟨(cutF x.cps.toList i).toArray⟩))
  | _, _ => none
def sltD : D → D → Option R
  | .list xs, .int i => some (.own (cutT xs i))
  | .tuple xs, .int i => some (.val (.tuple (cutT xs i)))
  | .str x, .int i => some (.val (.str ⟨(cutT x.cps.toList i).toArray⟩))
  | _, _ => none
def revD : D → Option R
  | .list xs => some (.own xs.reverse)
  | .tuple xs => some (.val (.tuple xs.reverse))
  | _ => none
def isOf : String → D → Bool
  | "int", .int _ => true
  | "int", .bool _ => true
  | "bool", .bool _ => true
  | "str", .str _ => true
  | "tuple", .tuple _ => true
  | "list", .list _ => true
  | _, _ => false
def isiD (tys : List String) (d : D) : Option Bool := match d with
  | .dict _ => none
  | d => some (tys.any fun t => isOf t d)
def truths (xs : List D) : Option (List Bool) := boolsD xs
/-- can be a key: not None, not () -/
def keyD : D → Bool
  | .none => false
  | .tuple [] => false
  | _ => true
/-- all keys alike -/
def sortsOk (ks : List D) : Bool := (ks.all fun a => ks.all fun b => alk a b) && okAll 60 ks && ks.all keyD
/-- sorted by keys, equal ones in their turn -/
def sortK (ps : List (D × D)) : List (D × D) := ps.mergeSort fun p q => !ltD q.1 p.1
/-- the first greatest, the first least by keys -/
def bestK (mx : Bool) : D × D → List (D × D) → D × D
  | b, [] => b
  | (k, x), (k', x') :: r => if (if mx then ltD k k' else ltD k' k) then bestK mx (k', x') r else bestK mx (k, x) r
/-- without those that came already -/
def dedup : List D → List D → List D
  | acc, [] => acc
  | acc, x :: r => if acc.any fun z => PyData.eqv z x then dedup acc r else dedup (acc ++ [x]) r
def tupInts : D → Bool
  | .tuple xs => (intsD xs).isSome
  | _ => false
def putS (k : Str) (v : D) : List (D × D) → List (D × D)
  | [] => [(.str k, v)]
  | (.str x, d) :: r => if beqS x k then (.str x, v) :: r else (.str x, d) :: putS k v r
  | p :: r => p :: putS k v r
def pairsD : List (D × D) → List D → Option (List (D × D))
  | acc, [] => some acc
  | acc, .tuple [.str k, v] :: r => pairsD (putS k v acc) r
  | _, _ => none
def joinS (sep : Str) : List Str → Str
  | [] => Str.empty
  | [x] => x
  | x :: r => x ++ sep ++ joinS sep r
def keysD : List (D × D) → List D
  | [] => []
  | (k, _) :: r => k :: keysD r
/-- rows of whole numbers, by the first in which they differ -/
def ltRow : List Int → List Int → Bool
  | x :: xs, y :: ys => if x = y then ltRow xs ys else decide (x < y)
  | [], _ :: _ => true
  | _, [] => false
def rowOf : D → Option (List Int)
  | .tuple xs => intsD xs
  | _ => none
def rowsOfD : List D → Option (List (List Int))
  | [] => some []
  | d :: r => match rowOf d, rowsOfD r with
    | some x, some xs => some (x :: xs)
    | _, _ => none
def dedR : List (List Int) → List (List Int) → List (List Int)
  | acc, [] => acc
  | acc, x :: r => if x ∈ acc then dedR acc r else dedR (acc ++ [x]) r
def sortR (rows : List (List Int)) : List (List Int) := (dedR [] rows).mergeSort fun p q => !ltRow q p
/-- rows of one length, not negative, few of them unlike -/
def rowsFit : List (List Int) → Bool
  | [] => true
  | x :: r => decide (1 ≤ x.length) && ((x :: r).all fun y => decide (y.length = x.length) && y.all fun i => decide (0 ≤ i)) && decide ((dedR [] (x :: r)).length ≤ 62)
def rowD (r : List Int) : D := .tuple (r.map .int)
def ssetD (xs : List D) : Option R := match rowsOfD xs with
  | some rows => if rowsFit rows then some (.own ((sortR rows).map rowD)) else none
  | none => none
def biD : Bi → List D → Option R
  | .len, [.str x] => some (.val (.int x.length))
  | .len, [.list xs] => some (.val (.int xs.length))
  | .len, [.tuple xs] => some (.val (.int xs.length))
  | .all, [.list xs] => (boolsD xs).map fun bs => .val (.bool (bs.all id))
  | .any, [.list xs] => (boolsD xs).map fun bs => .val (.bool (bs.any id))
  | .sum, [.list xs] => (intsD xs).map fun is => .val (.int is.sum)
  | .max1, [d] => match items d with
    | some xs => match intsD xs with
      | some (i :: is) => some (.val (.int (is.foldl max i)))
      | _ => none
    | none => none
  | .max2, [.int i, .int j] => some (.val (.int (if j > i then j else i)))
  | .min2, [.int i, .int j] => some (.val (.int (if j < i then j else i)))
  | .tuple, [.list xs] => some (.val (.tuple xs))
  | .tuple, [.tuple xs] => some (.val (.tuple xs))
  | .list, [.list xs] => some (.own xs)
  | .list, [.tuple xs] => some (.own xs)
  | .list, [.dict kvs] => some (.own (keysD kvs))
  | .int, [.int i] => some (.val (.int i))
  | .int, [.bool b] => some (.val (.int (if b then 1 else 0)))
  | .int, [.str x] => if x.length ≤ 640 then (PySem.intText? x).map fun n => .val (.int n) else none
  | .str, [.int i] => if i.natAbs < 2 ^ 400 then some (.val (.str (Str.ofString (toString i)))) else none
  | .str, [.str x] => some (.val (.str x))
  | .sset, [.list xs] => ssetD xs
  | .lset, [.list xs] => if (strsD xs).isSome then some (.val (.int (dedup [] xs).length)) else none
  | .sorted, [.list xs] => if (strsD xs).isSome then some (.own ((sortK (xs.map fun x => (x, x))).map (·.2))) else none
  | .dict, [.list xs] => (pairsD [] xs).map fun kvs => .val (.dict kvs)
  | .dict, [.tuple xs] => (pairsD [] xs).map fun kvs => .val (.dict kvs)
  | .dict, [.dict kvs] => some (.val (.dict kvs))
  | .join, [.str s, .list xs] => match strsD xs with
    | some ys => if (ys.map fun y => y.length + s.length).sum ≤ big then some (.val (.str (joinS s ys))) else none
    | none => none
  | .split, [.str x, .str s] => if s.length ≠ 0 ∧ x.length + 2 ≤ big then some (.own ((PySem.Txt.split x s).map .str)) else none
  | .partition, [.str x, .str s] => if s.length ≠ 0 then some (.val (.tuple [.str (PySem.Txt.partition x s).1, .str (PySem.Txt.partition x s).2.1, .str (PySem.Txt.partition x s).2.2])) else none
  | .startswith, [.str x, .str s] => some (.val (.bool (PySem.Txt.startswith x s)))
  | .endswith, [.str x, .str s] => some (.val (.bool (PySem.Txt.endswith x s)))
  | .get, [.dict kvs, .str k] => some (.val ((lookS k kvs).getD .none))
  | .get2, [.dict kvs, .str k, d] => some (.val ((lookS k kvs).getD d))
  | _, _ => none

def setAll : List Nat → List D → Env → Option Env
  | [], [], ρ => some ρ
  | i :: is, d :: ds, ρ => setAll is ds (ρ.set i (some (.val d)))
  | _, _, _ => none
def bindT : Tgt → D → Env → Option Env
  | .name i, d, ρ => some (ρ.set i (some (.val d)))
  | .tup is, d, ρ => match items d with
    | some xs => setAll is xs ρ
    | none => none
def slot (ρ : Env) (i : Nat) : Option R := match ρ[i]? with
  | some (some (.val d)) => some (.val d)
  | some (some (.own xs)) => some (.bor xs)
  | _ => none
def fixes : List R → Option (List D)
  | [] => some []
  | r :: rs => match r.fix, fixes rs with
    | some d, some ds => some (d :: ds)
    | _, _ => none
def isBor : R → Bool
  | .bor _ => true
  | _ => false
/-- a call's end where an argument was a name's own list: it must not be held -/
def afterCall (rs : List R) (r : R) : Option R := if rs.any isBor then (match r with
  | .val d => if isAtom d then some (.val d) else none
  | _ => none) else some r
def zipD : List D → List D → List D
  | x :: xs, y :: ys => .tuple [x, y] :: zipD xs ys
  | _, _ => []
def enumD : Nat → List D → List D
  | n, x :: xs => .tuple [.int n, x] :: enumD (n + 1) xs
  | _, [] => []
def iterD : D → Option (List D)
  | .list xs => some xs
  | .tuple xs => some xs
  | .str x => some (x.cps.toList.map fun c => .str ⟨#[c]⟩)
  | _ => none
def dctD : List Str → List D → Option (List (D × D))
  | [], [] => some []
  | k :: ks, d :: ds => (dctD ks ds).map fun r => (.str k, d) :: r
  | _, _ => none
/-- one turn after another, what they give in a row -/
def loopL (f : D → M (List D)) : List D → M (List D)
  | [] => ret []
  | d :: ds => bnd (f d) fun xs => bnd (loopL f ds) fun ys => ret (xs ++ ys)
def mapM1 (f : D → M D) : List D → M (List D)
  | [] => ret []
  | d :: ds => bnd (f d) fun x => bnd (mapM1 f ds) fun ys => ret (x :: ys)
def isTrueD : R → Option Bool
  | .val (.bool b) => some b
  | _ => none
def slotsT : Tgt → List Nat
  | .name i => [i]
  | .tup is => is
def ownG : Ge → List Nat
  | .elt _ => []
  | .for_ tg _ _ g => slotsT tg ++ ownG g
def wipeR (ρ : Env) : List Nat → Env
  | [] => ρ
  | i :: is => (wipeR ρ is).set i none
/-- a comprehension of one clause is no longer than what it walks -/
def fitG : Ge → List D → Option R
  | .elt _, xs => some (.own xs)
  | .for_ .., xs => if xs.length ≤ big then some (.own xs) else none
/-- as a datum: a name's own list only where it is not changed meanwhile -/
def seen (st : Bool) (r : R) : Option D := if st then r.fix else some r.look
/-- what a def does: its name, its arguments, the drawing list -/
abbrev Call := Str → List D → M R

/-- the keys that a def gives -/
def keysOf (Φ : Call) (f : Str) : List D → Option (List D)
  | [] => some []
  | d :: ds => match Φ f [d] [] with
    | some (r, _) => match r.fix, keysOf Φ f ds with
      | some k, some ks => some (k :: ks)
      | _, _ => none
    | none => none
def srtD (key : List D → Option (List D)) : D → Option R
  | .list xs => (key xs).bind fun ks => if sortsOk ks then some (.own ((sortK (ks.zip xs)).map (·.2))) else none
  | _ => none
def bestD (mx : Bool) (key : List D → Option (List D)) : D → Option R
  | .list xs => (key xs).bind fun ks => if sortsOk ks then (match ks.zip xs with
    | [] => none
    | p :: ps => some (.val (bestK mx p ps).2)) else none
  | _ => none
/-- only where the drawing list is there -/
def needT {α : Type} (m : M α) : M α := fun t => match t with
  | [] => none
  | x :: r => m (x :: r)
section
variable (Φ : Call) (Γ : Str → Option D)
mutual
def ev : T → Env → M R
  | .var i, ρ => lift (slot ρ i)
  | .cst d, _ => ret (.val d)
  | .glob x, _ => lift ((Γ x).map .val)
  | .tup es, ρ => bnd (evs es ρ) fun rs => lift ((fixes rs).bind fun ds => if ds.length ≤ big then some (.val (.tuple ds)) else none)
  | .lst es, ρ => bnd (evs es ρ) fun rs => lift ((fixes rs).bind fun ds => if ds.length ≤ big then some (.own ds) else none)
  | .dct ks es, ρ => bnd (evs es ρ) fun rs => lift ((fixes rs).bind fun ds => (dctD ks ds).bind fun kvs => if kvs.length ≤ 15 then some (.val (.dict kvs)) else none)
  | .bin o a b, ρ => bnd (ev a ρ) fun x => bnd (ev b ρ) fun y => lift (bop o x.look y.look)
  | .neg a, ρ => bnd (ev a ρ) fun x => lift (match x with | .val (.int i) => some (.val (.int (-i))) | _ => none)
  | .not a, ρ => bnd (ev a ρ) fun x => lift ((isTrueD x).map fun b => .val (.bool (!b)))
  | .and a b, ρ => bnd (ev a ρ) fun x => bnd (lift (isTrueD x)) fun c => if c then ev b ρ else ret (.val (.bool false))
  | .or a b, ρ => bnd (ev a ρ) fun x => bnd (lift (isTrueD x)) fun c => if c then ret (.val (.bool true)) else ev b ρ
  | .orv a b, ρ => bnd (ev a ρ) fun x => match x with
      | .val (.str s) => if s.length = 0 then ev b ρ else ret (.val (.str s))
      | _ => lift none
  | .lrng a, ρ => bnd (ev a ρ) fun x => lift (match x with
      | .val (.int n) => if n.natAbs ≤ big then some (.own ((List.range n.toNat).map fun i => .int (i : Nat))) else none
      | _ => none)
  | .cmp o a b, ρ => bnd (ev a ρ) fun x => bnd (ev b ρ) fun y => lift ((cop o x.look y.look).map fun c => .val (.bool c))
  | .cmp2 o o' a b c, ρ => bnd (ev a ρ) fun x => bnd (ev b ρ) fun y => bnd (lift (cop o x.look y.look)) fun k =>
      if k then bnd (ev c ρ) fun z => lift ((cop o' y.look z.look).map fun c => .val (.bool c)) else ret (.val (.bool false))
  | .ite c a b, ρ => bnd (ev c ρ) fun x => bnd (lift (isTrueD x)) fun k => if k then ev a ρ else ev b ρ
  | .sub a i, ρ => bnd (ev a ρ) fun x => bnd (ev i ρ) fun y => lift ((subD x.look y.look).map .val)
  | .slf a lo, ρ => bnd (ev a ρ) fun x => bnd (ev lo ρ) fun y => lift (slfD x.look y.look)
  | .slt a hi, ρ => bnd (ev a ρ) fun x => bnd (ev hi ρ) fun y => lift (sltD x.look y.look)
  | .rev a, ρ => bnd (ev a ρ) fun x => lift (revD x.look)
  | .stp _ _, _ => lift none
  | .tget i, ρ => needT (bnd (ev i ρ) fun y => fun t => (lift ((subD (.list t) y.look).map .val) : M R) t)
  | .call f es, ρ => bnd (evs es ρ) fun rs => fun t => match Φ f (rs.map R.look) [] with
      | some (r, _) => (lift (afterCall rs r) : M R) t
      | none => none
  | .callT f es, ρ => needT (bnd (evs es ρ) fun rs => bnd (needT (Φ f (rs.map R.look))) fun r => lift (if rs.any isBor then none else some r))
  | .bi b es, ρ => bnd (evs es ρ) fun rs => lift (biD b (rs.map R.look))
  | .isi a tys, ρ => bnd (ev a ρ) fun x => lift ((isiD tys x.look).map fun c => .val (.bool c))
  | .srt a f, ρ => bnd (ev a ρ) fun x => lift (srtD (keysOf Φ f) x.look)
  | .best mx a f, ρ => bnd (ev a ρ) fun x => lift (bestD mx (keysOf Φ f) x.look)
  | .comp tg it c g, ρ => bnd (evi false it ρ) fun ds => bnd (loopL (fun d => bnd (lift (bindT tg d (wipeR ρ (slotsT tg ++ ownG g)))) fun ρ1 => bnd (ev c ρ1) fun x => bnd (lift (isTrueD x)) fun k =>
      if k then evg g ρ1 else ret []) ds) fun xs => lift (fitG g xs)
def evs : Ts → Env → M (List R)
  | .nil, _ => ret []
  | .cons t ts, ρ => bnd (ev t ρ) fun x => bnd (evs ts ρ) fun xs => ret (x :: xs)
  | .star t ts, ρ => bnd (ev t ρ) fun x => bnd (lift (items x.look)) fun ds => bnd (evs ts ρ) fun xs => ret (ds.map .val ++ xs)
def evg : Ge → Env → M (List D)
  | .elt e, ρ => bnd (ev e ρ) fun r => lift (r.fix.map fun y => [y])
  | .for_ tg it c g, ρ => bnd (evi true it ρ) fun ds => loopL (fun d => bnd (lift (bindT tg d (wipeR ρ (slotsT tg ++ ownG g)))) fun ρ1 => bnd (ev c ρ1) fun x => bnd (lift (isTrueD x)) fun k =>
      if k then evg g ρ1 else ret []) ds
def evi (st : Bool) : I → Env → M (List D)
  | .ex t, ρ => bnd (ev t ρ) fun x => lift ((seen st x).bind iterD)
  | .rng t, ρ => bnd (ev t ρ) fun x => lift (match x with
      | .val (.int n) => if n.natAbs ≤ big then some ((List.range n.toNat).map fun i => .int (i : Nat)) else none
      | _ => none)
  | .zip a b, ρ => bnd (ev a ρ) fun x => bnd (ev b ρ) fun y => lift (match seen st x, seen st y with
      | some (.list xs), some (.list ys) => some (zipD xs ys)
      | some (.tuple xs), some (.tuple ys) => some (zipD xs ys)
      | _, _ => none)
  | .enum a, ρ => bnd (ev a ρ) fun x => lift (match seen st x with
      | some (.list xs) => some (enumD 0 xs)
      | some (.tuple xs) => some (enumD 0 xs)
      | _ => none)
  | .revr t, ρ => bnd (ev t ρ) fun x => lift (match x with
      | .val (.int n) => if n.natAbs ≤ big then some ((List.range n.toNat).reverse.map fun i => .int (i : Nat)) else none
      | _ => none)
end
def putR : Nat × Bool → R → Env → Option Env
  | (i, true), .own xs, ρ => some (ρ.set i (some (.own xs)))
  | (i, false), r, ρ => r.fix.map fun d => ρ.set i (some (.val d))
  | _, _, _ => none
def putRs : List (Nat × Bool) → List R → Env → Option Env
  | [], [], ρ => some ρ
  | p :: ps, r :: rs, ρ => (putR p r ρ).bind fun ρ' => putRs ps rs ρ'
  | _, _, _ => none
def ownAt (ρ : Env) (i : Nat) : Option (List D) := match ρ[i]? with
  | some (some (.own xs)) => some xs
  | _ => none
def intOf : R → Option Int
  | .val (.int i) => some i
  | _ => none
def setIx (xs : List D) (i : Int) (d : D) : Option (List D) := (L2.ixN xs.length i).map fun j => xs.set j d
def insIx (xs : List D) (i : Int) (d : D) : Option (List D) := if 0 ≤ i ∧ i.natAbs ≤ big ∧ xs.length < big then some (xs.take i.toNat ++ d :: xs.drop i.toNat) else none
def retR : R → R
  | .bor xs => .own xs
  | r => r
abbrev Out := Option R × Env
/-- a for's turns: until one returns -/
def forL (f : D → Env → M Out) : List D → Env → M Out
  | [], ρ => ret (none, ρ)
  | d :: ds, ρ => bnd (f d ρ) fun o => match o with
    | (none, ρ') => forL f ds ρ'
    | (some r, ρ') => ret (some r, ρ')
def whileL (c : Env → M Bool) (f : Env → M Out) : Nat → Env → M Out
  | 0, _ => lift none
  | n + 1, ρ => bnd (c ρ) fun k => if k then bnd (f ρ) fun o => match o with
    | (none, ρ') => whileL c f n ρ'
    | (some r, ρ') => ret (some r, ρ') else ret (none, ρ)
/-- the most turns of a while -/
def turns : Nat := 1000000
mutual
def exS : S → Env → M Out
  | .set i e, ρ => bnd (ev Φ Γ e ρ) fun r => lift (r.fix.map fun d => (none, ρ.set i (some (.val d))))
  | .setO i e, ρ => bnd (ev Φ Γ e ρ) fun r => lift (match r with | .own xs => some (none, ρ.set i (some (.own xs))) | _ => none)
  | .par is es, ρ => bnd (evs Φ Γ es ρ) fun rs => lift ((putRs is rs ρ).map fun ρ' => (none, ρ'))
  | .unp is e, ρ => bnd (ev Φ Γ e ρ) fun r => lift (r.fix.bind fun d => (bindT (.tup is) d ρ).map fun ρ' => (none, ρ'))
  | .aug i o e, ρ => bnd (lift (slot ρ i)) fun x => bnd (ev Φ Γ e ρ) fun y => lift (match o, intOf x, intOf y with
      | .add, some a, some b => some (none, ρ.set i (some (.val (.int (a + b)))))
      | .sub, some a, some b => some (none, ρ.set i (some (.val (.int (a - b)))))
      | _, _, _ => none)
  | .app i e, ρ => bnd (lift (ownAt ρ i)) fun xs => bnd (ev Φ Γ e ρ) fun r => lift (r.fix.bind fun d => if xs.length < big then some (none, ρ.set i (some (.own (xs ++ [d])))) else none)
  | .seti i ix e, ρ => bnd (ev Φ Γ e ρ) fun r => bnd (lift (ownAt ρ i)) fun xs => bnd (ev Φ Γ ix ρ) fun k => lift (r.fix.bind fun d => (intOf k).bind fun j => (setIx xs j d).map fun ys => (none, ρ.set i (some (.own ys))))
  | .popv j i, ρ => bnd (lift (ownAt ρ i)) fun xs => lift (xs.getLast?.map fun d => (none, (ρ.set i (some (.own xs.dropLast))).set j (some (.val d))))
  | .popat i ix, ρ => bnd (lift (ownAt ρ i)) fun xs => bnd (ev Φ Γ ix ρ) fun k => lift ((intOf k).bind fun j => if 0 ≤ j ∧ j < xs.length then some (none, ρ.set i (some (.own (xs.eraseIdx j.toNat)))) else none)
  | .ins i ix e, ρ => bnd (lift (ownAt ρ i)) fun xs => bnd (ev Φ Γ ix ρ) fun k => bnd (ev Φ Γ e ρ) fun r => lift ((intOf k).bind fun j => r.fix.bind fun d => (insIx xs j d).map fun ys => (none, ρ.set i (some (.own ys))))
  | .tini i e, ρ => bnd (ev Φ Γ e ρ) fun r => fun _ => match r with | .own (x :: xs) => if i < ρ.length then some ((none, ρ), x :: xs) else none | _ => none
  | .tset ix e, ρ => bnd (ev Φ Γ e ρ) fun r => needT (bnd (ev Φ Γ ix ρ) fun k => fun t => match r.fix, intOf k with
      | some d, some j => match setIx t j d with
        | some t' => some ((none, ρ), t')
        | none => none
      | _, _ => none)
  | .ite c a b, ρ => bnd (ev Φ Γ c ρ) fun x => bnd (lift (isTrueD x)) fun k => if k then exSs a ρ else exSs b ρ
  | .for_ tg it body, ρ => bnd (evi Φ Γ true it ρ) fun ds => forL (fun d ρ => bnd (lift (bindT tg d ρ)) fun ρ' => exSs body ρ') ds ρ
  | .while_ c body, ρ => whileL (fun ρ => bnd (ev Φ Γ c ρ) fun x => lift (isTrueD x)) (fun ρ => exSs body ρ) turns ρ
  | .ret e, ρ => bnd (ev Φ Γ e ρ) fun r => ret (some (retR r), ρ)
  | .frz i, ρ => lift ((ownAt ρ i).map fun xs => (none, ρ.set i (some (.val (.list xs)))))
  | .pass, ρ => ret (none, ρ)
def exSs : Ss → Env → M Out
  | .nil, ρ => ret (none, ρ)
  | .cons s ss, ρ => bnd (exS s ρ) fun o => match o with
    | (none, ρ') => exSs ss ρ'
    | (some r, ρ') => ret (some r, ρ')
end
end
/-- a def: how many parameters, whether the first one is the drawing list, how many names, the body -/
structure Def where
  np : Nat
  tape : Bool
  ns : Nat
  body : Ss
def entry (d : Def) (ds : List D) : Env := (if d.tape then [none] else []) ++ ds.map (fun x => some (R.val x)) ++ List.replicate (d.ns - d.np) none
def outR : Out → R
  | (some r, _) => r
  | (none, _) => .val .none
def callD (P : Str → Option Def) (Γ : Str → Option D) : Nat → Call
  | 0, _, _ => lift none
  | n + 1, f, ds => match P f with
    | some d => if ds.length + (if d.tape then 1 else 0) = d.np ∧ d.np ≤ d.ns then bnd (exSs (callD P Γ n) Γ d.body (entry d ds)) fun o => ret (outR o) else lift none
    | none => lift none
end Ev

set_option Elab.async false
set_option linter.all false
set_option maxRecDepth 100000
/-! EvB: how the plain data lie in the abstract heap of the hand layer. G: the part of the heap that stands for ever. -/
namespace Ev
open PySem PySem.Spec PyProof.Rows L2

mutual
inductive Rp (K : PySem.W.Frag) (G : Hp) : V → D → Prop
  | non : Rp K G .non .none
  | bl (b : Bool) : Rp K G (.bl b) (.bool b)
  | int (i : Int) : Rp K G (.int i) (.int i)
  | str (x : Str) : x.length ≤ big → Rp K G (.str x) (.str x)
  | lst {a : Addr} {xs : List V} {ds : List D} : SqL K G a xs → RpAll K G xs ds → ds.length ≤ big → Rp K G (.ref a) (.list ds)
  | tup {a : Addr} {xs : List V} {ds : List D} : SqT K G a xs → RpAll K G xs ds → ds.length ≤ big → Rp K G (.ref a) (.tuple ds)
  | dct {a : Addr} {kvs : List (Key × V)} {ps : List (D × D)} : G a = some (.dK kvs) → RpKv K G kvs ps → ps.length ≤ big → Rp K G (.ref a) (.dict ps)
inductive RpAll (K : PySem.W.Frag) (G : Hp) : List V → List D → Prop
  | nil : RpAll K G [] []
  | cons {v : V} {vs : List V} {d : D} {ds : List D} : Rp K G v d → RpAll K G vs ds → RpAll K G (v :: vs) (d :: ds)
inductive RpKv (K : PySem.W.Frag) (G : Hp) : List (Key × V) → List (D × D) → Prop
  | nil : RpKv K G [] []
  | cons {k : Str} {v : V} {kvs : List (Key × V)} {d : D} {ps : List (D × D)} : Rp K G v d → RpKv K G kvs ps → k.length ≤ big → RpKv K G ((.inr k, v) :: kvs) ((.str k, d) :: ps)
end

def Le (G H : Hp) : Prop := ∀ a o, G a = some o → H a = some o
theorem Le.rfl {G : Hp} : Le G G := fun _ _ e => e
theorem Le.trans {G H H' : Hp} (h : Le G H) (h' : Le H H') : Le G H' := fun a o e => h' a o (h a o e)
theorem Le.rd {G H : Hp} (h : Le G H) {a : Addr} {u : HO} (r : Rd G a u) : Rd H a u := by
  rcases r with r | ⟨o, r⟩
  · exact .inl (h _ _ r)
  · exact .inr ⟨o, h _ _ r⟩
theorem Le.sl {K : PySem.W.Frag} {G H : Hp} (h : Le G H) {a : Addr} {xs : List V} (r : SqL K G a xs) : SqL K H a xs := by
  rcases r with r | r
  · exact .inl (h.rd r)
  · exact .inr r
theorem Le.st {K : PySem.W.Frag} {G H : Hp} (h : Le G H) {a : Addr} {xs : List V} (r : SqT K G a xs) : SqT K H a xs := by
  rcases r with r | r
  · exact .inl (h.rd r)
  · exact .inr r
theorem Le.upd {G : Hp} {p : Addr} {o : HO} (h : G p = none) : Le G (upd G p o) := fun a u e => by
  rw [upd_ne (ne_of_none e h)]
  exact e
theorem Le.upd2 {G H : Hp} {p : Addr} {o : HO} (h : Le G H) (e : H p = some o) : Le (L2.upd G p o) H := fun a u q => by
  by_cases z : a = p
  · subst z
    rw [upd_same] at q
    cases q
    exact e
  · rw [upd_ne z] at q
    exact h _ _ q
theorem Le.none {G H : Hp} (h : Le G H) {p : Addr} (e : H p = none) : G p = none := by
  cases q : G p with
  | none => rfl
  | some o =>
    have := h _ _ q
    rw [e] at this
    cases this

section
variable {K : PySem.W.Frag} {G H : Hp}
mutual
theorem Rp.mono (l : Le G H) : ∀ (d : D) (v : V), Rp K G v d → Rp K H v d
  | .none, _, h => by cases h; exact .non
  | .bool b, _, h => by cases h; exact .bl b
  | .int i, _, h => by cases h; exact .int i
  | .str x, _, h => by cases h with | str _ h1 => exact .str x h1
  | .list ds, _, h => by cases h with | lst h1 h2 h3 => exact .lst (l.sl h1) (RpAll.mono l ds _ h2) h3
  | .tuple ds, _, h => by cases h with | tup h1 h2 h3 => exact .tup (l.st h1) (RpAll.mono l ds _ h2) h3
  | .dict ps, _, h => by cases h with | dct h1 h2 h3 => exact .dct (l _ _ h1) (RpKv.mono l ps _ h2) h3
theorem RpAll.mono (l : Le G H) : ∀ (ds : List D) (vs : List V), RpAll K G vs ds → RpAll K H vs ds
  | [], _, h => by cases h; exact .nil
  | d :: ds, _, h => by cases h with | cons h1 h2 => exact .cons (Rp.mono l d _ h1) (RpAll.mono l ds _ h2)
theorem RpKv.mono (l : Le G H) : ∀ (ps : List (D × D)) (kvs : List (Key × V)), RpKv K G kvs ps → RpKv K H kvs ps
  | [], _, h => by cases h; exact .nil
  | (k, d) :: ps, _, h => by cases h with | cons h1 h2 h3 => exact .cons (Rp.mono l d _ h1) (RpKv.mono l ps _ h2) h3
end
theorem RpAll.length : ∀ {vs : List V} {ds : List D}, RpAll K G vs ds → vs.length = ds.length
  | [], _, h => by cases h; rfl
  | v :: vs, _, h => by cases h with | cons _ h2 => simp [RpAll.length h2]
theorem RpAll.get : ∀ {vs : List V} {ds : List D} {i : Nat} {d : D}, RpAll K G vs ds → ds[i]? = some d → ∃ v, vs[i]? = some v ∧ Rp K G v d
  | _, _, _, _, .nil, e => by simp at e
  | _, _, 0, _, .cons r _, e => by simp at e; subst e; exact ⟨_, rfl, r⟩
  | _, _, i + 1, d, .cons _ t, e => by
    obtain ⟨v, h1, h2⟩ := RpAll.get (i := i) (d := d) t (by simpa using e)
    exact ⟨v, by simpa using h1, h2⟩
theorem RpAll.append : ∀ {vs : List V} {ds : List D} {ws : List V} {es : List D}, RpAll K G vs ds → RpAll K G ws es → RpAll K G (vs ++ ws) (ds ++ es)
  | _, _, _, _, .nil, h => h
  | _, _, _, _, .cons r t, h => .cons r (RpAll.append t h)
theorem RpAll.take : ∀ {vs : List V} {ds : List D} (n : Nat), RpAll K G vs ds → RpAll K G (vs.take n) (ds.take n)
  | _, _, 0, _ => .nil
  | _, _, n + 1, .nil => .nil
  | _, _, n + 1, .cons r t => .cons r (RpAll.take n t)
theorem RpAll.drop : ∀ {vs : List V} {ds : List D} (n : Nat), RpAll K G vs ds → RpAll K G (vs.drop n) (ds.drop n)
  | _, _, 0, h => h
  | _, _, n + 1, .nil => .nil
  | _, _, n + 1, .cons r t => RpAll.drop n t
theorem RpAll.reverse {vs : List V} {ds : List D} (h : RpAll K G vs ds) : RpAll K G vs.reverse ds.reverse := by
  have key : ∀ (vs : List V) (ds : List D) (ws : List V) (es : List D), RpAll K G vs ds → RpAll K G ws es → RpAll K G (vs.reverse ++ ws) (ds.reverse ++ es) := by
    intro vs
    induction vs with
    | nil => intro ds ws es h h'; cases h; exact h'
    | cons v vs ih =>
      intro ds ws es h h'
      cases h with
      | cons h1 h2 =>
        rw [List.reverse_cons, List.reverse_cons, List.append_assoc, List.append_assoc]
        exact ih _ _ _ h2 (.cons h1 h')
  have := key vs ds [] [] h .nil
  simpa using this
theorem RpAll.set : ∀ {vs : List V} {ds : List D} (j : Nat) {v : V} {d : D}, RpAll K G vs ds → Rp K G v d → RpAll K G (vs.set j v) (ds.set j d)
  | _, _, _, _, _, .nil, _ => .nil
  | _, _, 0, _, _, .cons _ t, r => .cons r t
  | _, _, j + 1, _, _, .cons q t, r => .cons q (RpAll.set j t r)
theorem RpAll.eraseIdx : ∀ {vs : List V} {ds : List D} (j : Nat), RpAll K G vs ds → RpAll K G (vs.eraseIdx j) (ds.eraseIdx j)
  | _, _, _, .nil => .nil
  | _, _, 0, .cons _ t => t
  | _, _, j + 1, .cons q t => .cons q (RpAll.eraseIdx j t)
theorem RpAll.dropLast {vs : List V} {ds : List D} (h : RpAll K G vs ds) : RpAll K G vs.dropLast ds.dropLast := by
  rw [List.dropLast_eq_take, List.dropLast_eq_take, h.length]
  exact h.take _

mutual
/-- data without a dict: as the hand layer reads them -/
theorem Rp.dp : ∀ (n : Nat) (d : D) (v : V), ok n d = true → Rp K G v d → Dp K G v d
  | _, .none, _, _, h => by cases h; exact .non
  | _, .bool b, _, _, h => by cases h; exact .bl b
  | _, .int i, _, _, h => by cases h; exact .int i
  | _, .str x, _, _, h => by cases h; exact .str x
  | 0, .list ds, _, e, _ => by simp [ok] at e
  | n + 1, .list ds, _, e, h => by
    cases h with
    | lst h1 h2 _ => exact .lst h1 (RpAll.dp n ds _ (by simpa [ok] using e) h2)
  | 0, .tuple ds, _, e, _ => by simp [ok] at e
  | n + 1, .tuple ds, _, e, h => by
    cases h with
    | tup h1 h2 _ => exact .tup h1 (RpAll.dp n ds _ (by simpa [ok] using e) h2)
  | _, .dict _, _, e, _ => by simp [ok] at e
theorem RpAll.dp : ∀ (n : Nat) (ds : List D) (vs : List V), okAll n ds = true → RpAll K G vs ds → DpAll K G vs ds
  | _, [], _, _, h => by cases h; exact .nil
  | n, d :: ds, _, e, h => by
    cases h with
    | cons h1 h2 =>
      simp only [okAll, Bool.and_eq_true] at e
      exact .cons (Rp.dp n d _ e.1 h1) (RpAll.dp n ds _ e.2 h2)
end
end
mutual
theorem ok_lay : ∀ (n : Nat) (d : D), ok n d = true → d.canLay0 = true ∧ d.depth ≤ n
  | n, .none, _ => ⟨rfl, Nat.zero_le _⟩
  | n, .bool _, _ => ⟨rfl, Nat.zero_le _⟩
  | n, .int _, _ => ⟨rfl, Nat.zero_le _⟩
  | n, .str x, e => ⟨by simpa [ok, PyData.canLay0] using e, Nat.zero_le _⟩
  | 0, .list ds, e => by simp [ok] at e
  | n + 1, .list ds, e => by
    have h := okAll_lay n ds (by simpa [ok] using e)
    exact ⟨by simpa [PyData.canLay0] using h.1, by simp only [PyData.depth]; omega⟩
  | 0, .tuple ds, e => by simp [ok] at e
  | n + 1, .tuple ds, e => by
    have h := okAll_lay n ds (by simpa [ok] using e)
    exact ⟨by simpa [PyData.canLay0] using h.1, by simp only [PyData.depth]; omega⟩
  | _, .dict _, e => by simp [ok] at e
theorem okAll_lay : ∀ (n : Nat) (ds : List D), okAll n ds = true → PyData.canLayAll0 ds = true ∧ PyData.depthAll ds ≤ n
  | n, [], _ => ⟨rfl, Nat.zero_le _⟩
  | n, d :: ds, e => by
    simp only [okAll, Bool.and_eq_true] at e
    have h1 := ok_lay n d e.1
    have h2 := okAll_lay n ds e.2
    exact ⟨by simp only [PyData.canLayAll0, h1.1, h2.1, Bool.and_self], by simp only [PyData.depthAll]; omega⟩
end
theorem ok_shaped {n : Nat} {d : D} (h : ok n d = true) (hn : n ≤ 64) : SeqAt.shaped d = true := by
  have h1 := ok_lay n d h
  show (d.canLay0 && decide (d.depth ≤ 64)) = true
  rw [Bool.and_eq_true]
  exact ⟨h1.1, decide_eq_true (by omega)⟩
mutual
theorem ok_mono : ∀ (n m : Nat) (d : D), n ≤ m → ok n d = true → ok m d = true
  | n, m, .none, _, _ => rfl
  | n, m, .bool _, _, _ => rfl
  | n, m, .int _, _, _ => rfl
  | n, m, .str x, _, e => by simpa [ok] using e
  | 0, _, .list ds, _, e => by simp [ok] at e
  | n + 1, 0, .list ds, h, e => by omega
  | n + 1, m + 1, .list ds, h, e => by
    simp only [ok] at e ⊢
    exact okAll_mono n m ds (by omega) e
  | 0, _, .tuple ds, _, e => by simp [ok] at e
  | n + 1, 0, .tuple ds, h, e => by omega
  | n + 1, m + 1, .tuple ds, h, e => by
    simp only [ok] at e ⊢
    exact okAll_mono n m ds (by omega) e
  | _, _, .dict _, _, e => by simp [ok] at e
theorem okAll_mono : ∀ (n m : Nat) (ds : List D), n ≤ m → okAll n ds = true → okAll m ds = true
  | _, _, [], _, _ => rfl
  | n, m, d :: ds, h, e => by
    simp only [okAll, Bool.and_eq_true] at e ⊢
    exact ⟨ok_mono n m d h e.1, okAll_mono n m ds h e.2⟩
end

/-! ### a list that one name, or nobody yet, holds -/
structure OwnAt (K : PySem.W.Frag) (G H : Hp) (a : Addr) (xs : List D) : Prop where
  g : G a = none
  h : ∃ vs, H a = some (.lst vs) ∧ RpAll K G vs xs
  z : xs.length ≤ big
/-- read as a datum, whether it stands for ever or is held by one -/
def Lk (K : PySem.W.Frag) (G H : Hp) (v : V) (d : D) : Prop := Rp K G v d ∨ ∃ a xs, v = .ref a ∧ d = .list xs ∧ OwnAt K G H a xs

/-- the heap grew, in the part that stands, too; what is at ta alone may have changed -/
structure Ext (ta : Addr → Prop) (G H G' H' : Hp) : Prop where
  g : Le G G'
  h : ∀ a o, H a = some o → ¬ ta a → H' a = some o
  t : ∀ a, H a ≠ none → H' a ≠ none
  n : ∀ a, H a ≠ none → G a = none → G' a = none
  le : Le G' H'
abbrev no : Addr → Prop := fun _ => False
theorem Ext.rfl {ta : Addr → Prop} {G H : Hp} (l : Le G H) : Ext ta G H G H := ⟨Le.rfl, fun _ _ e _ => e, fun _ e => e, fun _ _ e => e, l⟩
theorem Ext.trans {ta : Addr → Prop} {G H G1 H1 G2 H2 : Hp} (x : Ext ta G H G1 H1) (y : Ext ta G1 H1 G2 H2) : Ext ta G H G2 H2 :=
  ⟨x.g.trans y.g, fun a o e n => y.h a o (x.h a o e n) n, fun a e => y.t a (x.t a e), fun a e e' => y.n a (x.t a e) (x.n a e e'), y.le⟩
theorem Ext.weak {ta tb : Addr → Prop} {G H G' H' : Hp} (x : Ext ta G H G' H') (w : ∀ a, ta a → tb a) : Ext tb G H G' H' :=
  ⟨x.g, fun a o e n => x.h a o e fun z => n (w a z), x.t, x.n, x.le⟩
theorem Ext.pure {ta : Addr → Prop} {G H G' H' : Hp} (x : Ext no G H G' H') : Ext ta G H G' H' := x.weak fun _ z => z.elim
theorem Ext.fresh {ta : Addr → Prop} {G H G' H' : Hp} (x : Ext ta G H G' H') {p : Addr} (e : H' p = none) : H p = none := by
  cases q : H p with
  | none => rfl
  | some o => exact absurd e (x.t p (by rw [q]; simp))
/-- a new object, not yet standing for ever -/
theorem Ext.new {ta : Addr → Prop} {G H : Hp} {p : Addr} {o : HO} (l : Le G H) (e : H p = none) : Ext ta G H G (upd H p o) :=
  ⟨Le.rfl, fun a u q _ => by rw [upd_ne (ne_of_none q e)]; exact q, fun a q => by
    by_cases z : a = p
    · subst z; exact absurd e q
    · rw [upd_ne z]; exact q, fun _ _ q => q, l.trans (Le.upd e)⟩
/-- a new object that stands for ever -/
theorem Ext.newG {ta : Addr → Prop} {G H : Hp} {p : Addr} {o : HO} (l : Le G H) (e : H p = none) : Ext ta G H (upd G p o) (upd H p o) :=
  ⟨Le.upd (l.none e), fun a u q _ => by rw [upd_ne (ne_of_none q e)]; exact q, fun a q => by
    by_cases z : a = p
    · subst z; exact absurd e q
    · rw [upd_ne z]; exact q, fun a q q' => by
    by_cases z : a = p
    · subst z; exact absurd e q
    · rw [upd_ne z]; exact q', fun a u q => by
    by_cases z : a = p
    · subst z; rw [upd_same] at q ⊢; exact q
    · rw [upd_ne z] at q ⊢; exact l _ _ q⟩
/-- an object that was made since H₀ stands for ever from now on -/
theorem Ext.frz {ta : Addr → Prop} {G₀ H₀ G H : Hp} {p : Addr} {o : HO} (x : Ext ta G₀ H₀ G H) (e0 : H₀ p = none) (eg : G p = none) (e : H p = some o) : Ext ta G₀ H₀ (upd G p o) H :=
  ⟨x.g.trans (Le.upd eg), x.h, x.t, fun a q q' => by
    by_cases z : a = p
    · subst z; exact absurd e0 q
    · rw [upd_ne z]; exact x.n a q q', x.le.upd2 e⟩

section
variable {K : PySem.W.Frag} {ta : Addr → Prop} {G H G' H' : Hp} {a : Addr} {v : V} {d : D} {xs : List D}
theorem OwnAt.ext (o : OwnAt K G H a xs) (x : Ext ta G H G' H') (n : ¬ ta a) : OwnAt K G' H' a xs := by
  obtain ⟨g, ⟨vs, h, r⟩, z⟩ := o
  exact ⟨x.n a (by rw [h]; simp) g, ⟨vs, x.h a _ h n, RpAll.mono x.g _ _ r⟩, z⟩
theorem OwnAt.rp (o : OwnAt K G H a xs) (l : Le G H) : Rp K H (.ref a) (.list xs) := by
  obtain ⟨g, ⟨vs, h, r⟩, z⟩ := o
  exact .lst (.inl (.inl h)) (RpAll.mono l _ _ r) z
theorem Lk.rp (k : Lk K G H v d) (l : Le G H) : Rp K H v d := by
  rcases k with k | ⟨a, xs, rfl, rfl, o⟩
  · exact Rp.mono l _ _ k
  · exact o.rp l
/-- the items of a list or tuple that is read stand for ever -/
theorem Lk.list {v : V} {xs : List D} (k : Lk K G H v (.list xs)) (l : Le G H) : ∃ a vs, v = .ref a ∧ SqL K H a vs ∧ RpAll K G vs xs ∧ xs.length ≤ big := by
  rcases k with k | ⟨a, ys, rfl, e, o⟩
  · cases k with
    | lst h1 h2 h3 => exact ⟨_, _, rfl, l.sl h1, h2, h3⟩
  · cases e
    obtain ⟨g, ⟨vs, h, r⟩, z⟩ := o
    exact ⟨a, vs, rfl, .inl (.inl h), r, z⟩
theorem Lk.tuple {v : V} {xs : List D} (k : Lk K G H v (.tuple xs)) (l : Le G H) : ∃ a vs, v = .ref a ∧ SqT K G a vs ∧ RpAll K G vs xs ∧ xs.length ≤ big := by
  rcases k with k | ⟨a, ys, rfl, e, o⟩
  · cases k with
    | tup h1 h2 h3 => exact ⟨_, _, rfl, h1, h2, h3⟩
  · cases e
theorem Lk.int {v : V} {i : Int} (k : Lk K G H v (.int i)) : v = .int i := by
  rcases k with k | ⟨a, ys, rfl, e, o⟩
  · cases k; rfl
  · cases e
theorem Lk.str {v : V} {x : Str} (k : Lk K G H v (.str x)) : v = .str x ∧ x.length ≤ big := by
  rcases k with k | ⟨a, ys, rfl, e, o⟩
  · cases k with | str _ h => exact ⟨rfl, h⟩
  · cases e
theorem Lk.bool {v : V} {x : Bool} (k : Lk K G H v (.bool x)) : v = .bl x := by
  rcases k with k | ⟨a, ys, rfl, e, o⟩
  · cases k; rfl
  · cases e
theorem Lk.none {v : V} (k : Lk K G H v .none) : v = .non := by
  rcases k with k | ⟨a, ys, rfl, e, o⟩
  · cases k; rfl
  · cases e
theorem Lk.dict {v : V} {ps : List (D × D)} (k : Lk K G H v (.dict ps)) : ∃ a kvs, v = .ref a ∧ G a = some (.dK kvs) ∧ RpKv K G kvs ps ∧ ps.length ≤ big := by
  rcases k with k | ⟨a, ys, rfl, e, o⟩
  · cases k with
    | dct h1 h2 h3 => exact ⟨_, _, rfl, h1, h2, h3⟩
  · cases e
end

/-- what an expression gives (not a name's own list) -/
def RR (K : PySem.W.Frag) (H₀ G H : Hp) (v : V) : R → Prop
  | .val d => Rp K G v d
  | .own xs => ∃ a, v = .ref a ∧ H₀ a = none ∧ OwnAt K G H a xs
  | .bor _ => False
/-- what is to be shown for a value that an operation gives -/
def Post (K : PySem.W.Frag) (G H : Hp) (r : R) (Q : VK) : Prop := ∀ v G' H', Ext no G H G' H' → RR K H G' H' v r → Q v H'
section
variable {K : PySem.W.Frag} {G H : Hp} {Q : VK}
theorem Post.val {v : V} {d : D} (p : Post K G H (.val d) Q) (l : Le G H) (r : Rp K G v d) : Q v H := p v G H (Ext.rfl l) r
theorem Post.tup {vs : List V} {ds : List D} (p : Post K G H (.val (.tuple ds)) Q) (l : Le G H) (r : RpAll K G vs ds) (z : ds.length ≤ big) : ∀ q, H q = none → Q (.ref q) (upd H q (.tup vs)) := fun q e =>
  p _ _ _ (Ext.newG l e) (.tup (.of upd_same) (RpAll.mono (Le.upd (l.none e)) _ _ r) z)
theorem Post.lst {vs : List V} {ds : List D} (p : Post K G H (.own ds) Q) (l : Le G H) (r : RpAll K G vs ds) (z : ds.length ≤ big) : ∀ q, H q = none → Q (.ref q) (upd H q (.lst vs)) := fun q e =>
  p _ _ _ (Ext.new l e) ⟨q, rfl, e, l.none e, ⟨vs, upd_same, r⟩, z⟩
end
end Ev

set_option Elab.async false
set_option linter.all false
set_option maxRecDepth 100000
set_option maxHeartbeats 1000000
/-! EvC: the operators of the plain data, over the hand layer's rules. -/
namespace Ev
open PySem PySem.Spec PyProof.Rows L2

theorem len_app (x y : Str) : (x ++ y).length = x.length + y.length := by
  show (x.cps ++ y.cps).size = _
  exact Array.size_append
theorem big_line {n : Nat} (h : n ≤ big) : n ≤ sizeLine := by rw [sizeLine_eq]; exact h
/-- two data in, by a function of them -/
def rD (K : PySem.W.Frag) (f : D → D → Option R) : R2 := fun x y H Q => ∃ G d e r, Le G H ∧ Lk K G H x d ∧ Lk K G H y e ∧ f d e = some r ∧ Post K G H r Q
def bR (f : D → D → Option Bool) : D → D → Option R := fun d e => (f d e).map fun c => .val (.bool c)

theorem log_lt {i : Int} {n : Nat} (h : i.natAbs < 2 ^ n) (h0 : 0 < n) : i.natAbs.log2 < n := PySem.Flt.log2_lt_of h0 h
theorem _root_.Ev.RpAll.rep {K : PySem.W.Frag} {G : Hp} {vs : List V} {ds : List D} (h : RpAll K G vs ds) : ∀ n : Nat, RpAll K G (List.replicate n vs).flatten (List.replicate n ds).flatten
  | 0 => .nil
  | n + 1 => by
    rw [List.replicate_succ, List.replicate_succ, List.flatten_cons, List.flatten_cons]
    exact h.append (h.rep n)
section
variable {X : Cx}
theorem opb_add : OpR X (binaryOp .Add) (rD X.K (bop .add)) := by
  rintro pins s σ H x y v u Q I rx ry ⟨G, d, e, r, l, kx, ky, hb, p⟩
  cases d <;> cases e <;> simp only [bop, reduceCtorEq] at hb
  · cases hb
    cases kx.int
    cases ky.int
    exact op_add pins s σ H _ _ v u Q I rx ry ⟨_, _, rfl, rfl, p.val l (.int _)⟩
  · obtain ⟨rfl, _⟩ := kx.str
    obtain ⟨rfl, _⟩ := ky.str
    split at hb
    · rename_i hz
      cases hb
      exact op_add_str pins s σ H _ _ v u Q I rx ry ⟨_, _, rfl, rfl, big_line hz, p.val l (.str _ (by rw [len_app]; exact hz))⟩
    · cases hb
  · obtain ⟨a, vs, rfl, h1, r1, zr1⟩ := kx.list l
    obtain ⟨b, ws, rfl, h2, r2, zr2⟩ := ky.list l
    split at hb
    · rename_i hz
      cases hb
      rw [← r1.length, ← r2.length] at hz
      have z := big_line hz
      cases rx
      cases ry
      obtain ⟨its, q1, e1, _⟩ := I.list h1
      obtain ⟨its2, q2, e2, _⟩ := I.list h2
      have hl : its.length + its2.length ≤ sizeLine := by rw [← q1.length, ← q2.length]; exact z
      obtain ⟨⟨cls, dd, data, sl⟩, n, ho, hc, _, hd⟩ := e1
      obtain ⟨⟨cls2, dd2, data2, sl2⟩, n2, ho2, hc2, _, hd2⟩ := e2
      simp only at hc hd hc2 hd2
      subst hc hd hc2 hd2
      refine concat_meets ⟨_, ho, rfl⟩ ⟨_, ho2, rfl⟩ noFill_list_add seq_list_add PySem.F.slot_list_add PySem.F.entry_list_add (PySem.F.args_list_add_2 _ _) (list_addW a b its.toArray its2.toArray n n2 dd dd2 sl sl2 (by simpa using hl)) ⟨ho, ho2, ?_⟩
      have ea : its.toArray ++ its2.toArray = (its ++ its2).toArray := by simp
      rw [ea]
      exact ⟨.ref _, _, I.lnew (t' := s.toks) (q1.append q2) (by rw [List.length_append]; exact z), rfl, p.lst l (r1.append r2) (by rw [List.length_append, ← r1.length, ← r2.length]; exact hz) _ I.fresh⟩
    · cases hb
  · obtain ⟨a, vs, rfl, h1, r1, zr1⟩ := kx.tuple l
    obtain ⟨b, ws, rfl, h2, r2, zr2⟩ := ky.tuple l
    split at hb
    · rename_i hz
      cases hb
      rw [← r1.length, ← r2.length] at hz
      refine op_catA pins s σ H _ _ v u Q I rx ry ⟨a, b, vs, ws, rfl, rfl, l.st h1, l.st h2, big_line hz, fun e => ?_, fun e e' => ?_, fun e e' => ?_⟩
      · subst e
        cases r1
        exact p.val l (.tup h2 r2 zr2)
      · subst e'
        cases r2
        exact p.val l (.tup h1 (by simpa using r1) (by simpa using zr1))
      · exact p.tup l (r1.append r2) (by rw [List.length_append, ← r1.length, ← r2.length]; exact hz)
    · cases hb
theorem opb_sub : OpR X (binaryOp .Sub) (rD X.K (bop .sub)) := by
  rintro pins s σ H x y v u Q I rx ry ⟨G, d, e, r, l, kx, ky, hb, p⟩
  cases d <;> cases e <;> simp only [bop, reduceCtorEq] at hb
  cases hb
  cases kx.int
  cases ky.int
  exact op_sub pins s σ H _ _ v u Q I rx ry ⟨_, _, rfl, rfl, p.val l (.int _)⟩
theorem opb_mul : OpR X (binaryOp .Mult) (rD X.K (bop .mul)) := by
  rintro pins s σ H x y v u Q I rx ry ⟨G, d, e, r, l, kx, ky, hb, p⟩
  cases d <;> cases e <;> simp only [bop, reduceCtorEq] at hb
  · rename_i i j
    cases kx.int
    cases ky.int
    split at hb
    · rename_i hm
      cases hb
      simp only [mulOk, Bool.or_eq_true, decide_eq_true_eq] at hm
      rcases hm with (hm | hm) | hm
      · exact op_mul pins s σ H _ _ v u Q I rx ry ⟨_, _, rfl, rfl, .inl hm, p.val l (.int _)⟩
      · exact op_mul pins s σ H _ _ v u Q I rx ry ⟨_, _, rfl, rfl, .inr hm, p.val l (.int _)⟩
      · exact op_mulW pins s σ H _ _ v u Q I rx ry ⟨_, _, rfl, rfl, wide_mul hm.1 hm.2 (by decide) (by decide) (by decide), p.val l (.int _)⟩
    · cases hb
  · obtain ⟨a, vs, rfl, h1, r1, zr1⟩ := kx.tuple l
    cases ky.int
    split at hb
    · rename_i j hm
      cases hb
      have hl := r1.length
      refine op_repT pins s σ H _ _ v u Q I rx ry ⟨a, _, vs, rfl, rfl, l.st h1, ?_, hm.1, hm.2.1, by omega, p.tup l (r1.rep _) ?_⟩
      · rintro rfl
        have e0 : (0 : Nat) < ([] : List V).length := by rw [hl]; exact hm.2.2.1
        exact absurd e0 (by decide)
      · rw [PyProof.Rows.lm_len_rep_flat]
        exact Nat.le_trans (Nat.mul_le_mul (show j.toNat ≤ 1000 by omega) hm.2.2.2) (by decide)
    · cases hb
theorem opb_fdiv : OpR X (binaryOp .FloorDiv) (rD X.K (bop .fdiv)) := by
  rintro pins s σ H x y v u Q I rx ry ⟨G, d, e, r, l, kx, ky, hb, p⟩
  cases d <;> cases e <;> simp only [bop, reduceCtorEq] at hb
  cases kx.int
  cases ky.int
  split at hb
  · rename_i hm
    cases hb
    exact op_fdivW pins s σ H _ _ v u Q I rx ry ⟨_, _, rfl, rfl, wide_div hm.1 hm.2 (by decide) (by decide), p.val l (.int _)⟩
  · cases hb
theorem opb_mod : OpR X (binaryOp .Mod) (rD X.K (bop .mod)) := by
  rintro pins s σ H x y v u Q I rx ry ⟨G, d, e, r, l, kx, ky, hb, p⟩
  cases d <;> cases e <;> simp only [bop, reduceCtorEq] at hb
  cases kx.int
  cases ky.int
  split at hb
  · rename_i hm
    cases hb
    exact op_mod pins s σ H _ _ v u Q I rx ry ⟨_, _, rfl, rfl, hm, p.val l (.int _)⟩
  · cases hb
theorem opb_pow : OpR X (binaryOp .Pow) (rD X.K (bop .pow)) := by
  rintro pins s σ H x y v u Q I rx ry ⟨G, d, e, r, l, kx, ky, hb, p⟩
  cases d <;> cases e <;> simp only [bop, reduceCtorEq] at hb
  cases kx.int
  cases ky.int
  split at hb
  · rename_i hm
    cases hb
    exact op_pow pins s σ H _ _ v u Q I rx ry ⟨_, _, rfl, rfl, ⟨hm.1, Int.le_trans hm.2.1 (by decide), hm.2.2⟩, p.val l (.int _)⟩
  · cases hb
def opOf : BOp → Operator
  | .add => .Add
  | .sub => .Sub
  | .mul => .Mult
  | .fdiv => .FloorDiv
  | .mod => .Mod
  | .pow => .Pow
/-! ### == and != , in, is -/
theorem opc_eq (hu : X.A.units + 65 < cLine) : OpR X (compareOp .Eq) (rD X.K (bR (cop .eq))) := by
  rintro pins s σ H x y v u Q I rx ry ⟨G, d, e, r, l, kx, ky, hb, p⟩
  simp only [bR, cop] at hb
  split at hb
  · rename_i hz
    rw [Bool.and_eq_true] at hz
    cases hb
    exact op_eqD (by omega) pins s σ H _ _ v u Q I rx ry ⟨d, e, Rp.dp 60 d _ hz.1 (kx.rp l), Rp.dp 60 e _ hz.2 (ky.rp l), ok_shaped hz.1 (by decide), ok_shaped hz.2 (by decide), p.val l (.bl _)⟩
  · cases hb
theorem opc_ne (hu : X.A.units + 65 < cLine) : OpR X (compareOp .NotEq) (rD X.K (bR (cop .ne))) := by
  rintro pins s σ H x y v u Q I rx ry ⟨G, d, e, r, l, kx, ky, hb, p⟩
  simp only [bR, cop] at hb
  split at hb
  · rename_i hz
    rw [Bool.and_eq_true] at hz
    cases hb
    exact op_neD (by omega) pins s σ H _ _ v u Q I rx ry ⟨d, e, Rp.dp 60 d _ hz.1 (kx.rp l), Rp.dp 60 e _ hz.2 (ky.rp l), ok_shaped hz.1 (by decide), ok_shaped hz.2 (by decide), p.val l (.bl _)⟩
  · cases hb
theorem valV_look {K : PySem.W.Frag} {G : Hp} (k : Str) : ∀ {kvs : List (Key × V)} {ps : List (D × D)}, RpKv K G kvs ps →
    (∀ d, lookS k ps = some d → ∃ v, valV kvs (.inr k) = some v ∧ Rp K G v d) ∧ (lookS k ps = none → valV kvs (.inr k) = none)
  | _, _, .nil => ⟨fun d e => by simp [lookS] at e, fun _ => rfl⟩
  | _, _, .cons (k := k') (v := v) (kvs := kvs) (d := d) (ps := ps) r t _ => by
    have ih := valV_look k t
    have e0 : valV ((Sum.inr k', v) :: kvs) (Sum.inr k : Key) = if (Sum.inr k' : Key) = Sum.inr k then some v else valV kvs (.inr k) := by
      unfold valV
      simp only [List.find?_cons]
      by_cases h : (Sum.inr k' : Key) = Sum.inr k
      · simp [h]
      · simp [h]
    rw [e0]
    by_cases h : k' = k
    · subst h
      have hb : beqS k' k' = true := decide_eq_true rfl
      simp only [lookS, hb, if_true]
      exact ⟨fun d' e => by cases e; exact ⟨v, rfl, r⟩, fun e => by cases e⟩
    · have h' : ¬ (Sum.inr k' : Key) = Sum.inr k := fun z => h (Sum.inr.inj z)
      have hb : beqS k' k = false := decide_eq_false h
      rw [if_neg h']
      simp only [lookS, hb, Bool.false_eq_true, if_false]
      exact ih
theorem lookS_isSome {K : PySem.W.Frag} {G : Hp} {k : Str} {kvs : List (Key × V)} {ps : List (D × D)} (r : RpKv K G kvs ps) : (valV kvs (.inr k)).isSome = (lookS k ps).isSome := by
  have h := valV_look k r
  cases e : lookS k ps with
  | none => rw [h.2 e]; rfl
  | some d => obtain ⟨v, h1, _⟩ := h.1 d e; rw [h1]; rfl
theorem one_sign {x : Str} (h : x.length = 1) : x = ⟨#[x.cps.getD 0 0]⟩ := by
  obtain ⟨⟨l⟩⟩ := x
  have h : l.length = 1 := h
  match l, h with
  | [c], _ => rfl
theorem opc_in (hu : X.A.units + 65 < cLine) : OpR X (compareOp .In) (rD X.K (bR (cop .isin))) := by
  rintro pins s σ H x y v u Q I rx ry ⟨G, d, e, r, l, kx, ky, hb, p⟩
  have seq : ∀ ys, (e = .list ys ∨ e = .tuple ys) → (if (ok 60 d && okAll 60 ys) = true then some (ys.any fun z => PyData.eqv z d) else none).map (fun c => R.val (.bool c)) = some r → wpAny (model X.prog X.w) X.A (compareOp .In v u) (EP X pins σ Q) X.xe s := by
    intro ys he hb
    split at hb
    · rename_i hz
      rw [Bool.and_eq_true] at hz
      cases hb
      have o1 := ok_lay 60 d hz.1
      have o2 := okAll_lay 60 ys hz.2
      have hd := Rp.dp 60 d _ hz.1 (kx.rp l)
      obtain ⟨as, r1⟩ := Dp.reads I d x v hd rx
      have he2 : ok 61 e = true := by
        rcases he with rfl | rfl <;> simpa [ok] using hz.2
      obtain ⟨bs, r2⟩ := Dp.reads I e y u (Rp.dp 61 e _ he2 (ky.rp l)) ry
      have q := p.val l (.bl (ys.any fun z => PyData.eqv z d))
      have hr : X.A.units + 1 + min (PyData.depthAll ys) d.depth < cLine := by omega
      rcases he with rfl | rfl
      · exact SeqAt.in_list_reads r2 r1 o2.1 o1.1 hr ⟨.bl _, H, I, rfl, q⟩
      · exact SeqAt.in_tuple_reads r2 r1 o2.1 o1.1 hr ⟨.bl _, H, I, rfl, q⟩
    · cases hb
  simp only [bR] at hb
  cases e with
  | list ys => exact seq ys (.inl rfl) (by cases d <;> simpa only [cop] using hb)
  | tuple ys => exact seq ys (.inr rfl) (by cases d <;> simpa only [cop] using hb)
  | str z =>
    cases d <;> simp only [cop, Option.map_none, reduceCtorEq] at hb
    rename_i w
    split at hb
    · rename_i hz
      cases hb
      obtain ⟨rfl, _⟩ := kx.str
      obtain ⟨rfl, _⟩ := ky.str
      exact op_in_sign pins s σ H _ _ v u Q I rx ry ⟨_, z, by rw [← one_sign hz], rfl, p.val l (.bl _)⟩
    · cases hb
  | dict kvs =>
    cases d <;> simp only [cop, Option.map_none, reduceCtorEq] at hb
    rename_i k
    cases hb
    obtain ⟨rfl, _⟩ := kx.str
    obtain ⟨a, ks, rfl, h1, r1, _⟩ := ky.dict
    cases ry
    refine d_in (by omega) I (DGet.k (k := Sum.inr k) (l _ _ h1)) rx fun s3 I3 => ?_
    rw [lookS_isSome r1]
    exact ⟨.bl _, H, I3, rfl, p.val l (.bl _)⟩
  | _ => cases d <;> simp only [cop, Option.map_none, reduceCtorEq] at hb
theorem opc_notin (hu : X.A.units + 65 < cLine) : OpR X (compareOp .NotIn) (rD X.K (bR (cop .notin))) := by
  rintro pins s σ H x y v u Q I rx ry ⟨G, d, e, r, l, kx, ky, hb, p⟩
  have seq : ∀ ys, (e = .list ys ∨ e = .tuple ys) → (if (ok 60 d && okAll 60 ys) = true then some (!ys.any fun z => PyData.eqv z d) else none).map (fun c => R.val (.bool c)) = some r → wpAny (model X.prog X.w) X.A (compareOp .NotIn v u) (EP X pins σ Q) X.xe s := by
    intro ys he hb
    split at hb
    · rename_i hz
      rw [Bool.and_eq_true] at hz
      cases hb
      have o1 := ok_lay 60 d hz.1
      have o2 := okAll_lay 60 ys hz.2
      have hd := Rp.dp 60 d _ hz.1 (kx.rp l)
      obtain ⟨as, r1⟩ := Dp.reads I d x v hd rx
      have he2 : ok 61 e = true := by
        rcases he with rfl | rfl <;> simpa [ok] using hz.2
      obtain ⟨bs, r2⟩ := Dp.reads I e y u (Rp.dp 61 e _ he2 (ky.rp l)) ry
      have q := p.val l (.bl (!ys.any fun z => PyData.eqv z d))
      have hr : X.A.units + 1 + min (PyData.depthAll ys) d.depth < cLine := by omega
      rcases he with rfl | rfl
      · exact SeqAt.notIn_list_reads r2 r1 o2.1 o1.1 hr ⟨.bl _, H, I, rfl, q⟩
      · exact SeqAt.notIn_tuple_reads r2 r1 o2.1 o1.1 hr ⟨.bl _, H, I, rfl, q⟩
    · cases hb
  simp only [bR] at hb
  cases e with
  | list ys => exact seq ys (.inl rfl) (by cases d <;> simpa only [cop] using hb)
  | tuple ys => exact seq ys (.inr rfl) (by cases d <;> simpa only [cop] using hb)
  | str z =>
    cases d <;> simp only [cop, Option.map_none, reduceCtorEq] at hb
    rename_i w
    split at hb
    · rename_i hz
      cases hb
      obtain ⟨rfl, _⟩ := kx.str
      obtain ⟨rfl, _⟩ := ky.str
      exact op_notIn_sign pins s σ H _ _ v u Q I rx ry ⟨_, z, by rw [← one_sign hz], rfl, p.val l (.bl _)⟩
    · cases hb
  | dict kvs =>
    cases d <;> simp only [cop, Option.map_none, reduceCtorEq] at hb
    rename_i k
    cases hb
    obtain ⟨rfl, _⟩ := kx.str
    obtain ⟨a, ks, rfl, h1, r1, _⟩ := ky.dict
    cases ry
    refine d_notIn (by omega) I (DGet.k (k := Sum.inr k) (l _ _ h1)) rx fun s3 I3 => ?_
    rw [lookS_isSome r1]
    exact ⟨.bl _, H, I3, rfl, p.val l (.bl _)⟩
  | _ => cases d <;> simp only [cop, Option.map_none, reduceCtorEq] at hb
theorem none_of {K : PySem.W.Frag} {G H : Hp} {v : V} {d : D} (k : Lk K G H v d) : decide (v = .non) = isNone d := by
  cases d with
  | none => rw [k.none]; rfl
  | bool b => rw [k.bool]; rfl
  | int i => rw [k.int]; rfl
  | str x => rw [k.str.1]; rfl
  | list xs =>
    rcases k with k | ⟨a, ys, rfl, _, _⟩
    · cases k; rfl
    · rfl
  | tuple xs =>
    rcases k with k | ⟨a, ys, rfl, _, _⟩
    · cases k; rfl
    · rfl
  | dict xs =>
    rcases k with k | ⟨a, ys, rfl, _, _⟩
    · cases k; rfl
    · rfl
theorem opc_is : OpR X (compareOp .Is) (rD X.K (bR (cop .iss))) := by
  rintro pins s σ H x y v u Q I rx ry ⟨G, d, e, r, l, kx, ky, hb, p⟩
  simp only [bR] at hb
  have non : e = .none → (some (isNone d)).map (fun c => R.val (.bool c)) = some r → wpAny (model X.prog X.w) X.A (compareOp .Is v u) (EP X pins σ Q) X.xe s := by
    rintro rfl hb
    cases hb
    refine op_isN pins s σ H _ _ v u Q I rx ry ⟨ky.none, ?_⟩
    rw [none_of kx]
    exact p.val l (.bl _)
  cases e with
  | none => exact non rfl (by cases d <;> simpa only [cop] using hb)
  | bool b =>
    cases d <;> simp only [cop, Option.map_none, reduceCtorEq] at hb
    cases hb
    cases kx.bool
    cases ky.bool
    refine op_isBl pins s σ H _ _ v u Q I rx ry ⟨_, _, rfl, rfl, ?_⟩
    rw [← Bool.beq_eq_decide_eq]
    exact p.val l (.bl _)
  | _ => cases d <;> simp only [cop, Option.map_none, reduceCtorEq] at hb
theorem opc_isnot : OpR X (compareOp .IsNot) (rD X.K (bR (cop .isnot))) := by
  rintro pins s σ H x y v u Q I rx ry ⟨G, d, e, r, l, kx, ky, hb, p⟩
  simp only [bR] at hb
  have non : e = .none → (some (!isNone d)).map (fun c => R.val (.bool c)) = some r → wpAny (model X.prog X.w) X.A (compareOp .IsNot v u) (EP X pins σ Q) X.xe s := by
    rintro rfl hb
    cases hb
    refine op_notN pins s σ H _ _ v u Q I rx ry ⟨ky.none, ?_⟩
    rw [none_of kx]
    exact p.val l (.bl _)
  cases e with
  | none => exact non rfl (by cases d <;> simpa only [cop] using hb)
  | bool b =>
    cases d <;> simp only [cop, Option.map_none, reduceCtorEq] at hb
    cases hb
    cases kx.bool
    cases ky.bool
    refine op_notBl pins s σ H _ _ v u Q I rx ry ⟨_, _, rfl, rfl, ?_⟩
    rw [← Bool.beq_eq_decide_eq]
    exact p.val l (.bl _)
  | _ => cases d <;> simp only [cop, Option.map_none, reduceCtorEq] at hb
theorem opb (o : BOp) : OpR X (binaryOp (opOf o)) (rD X.K (bop o)) := by
  cases o
  · exact opb_add
  · exact opb_sub
  · exact opb_mul
  · exact opb_fdiv
  · exact opb_mod
  · exact opb_pow
end
end Ev

set_option Elab.async false
set_option linter.all false
set_option maxRecDepth 100000
set_option maxHeartbeats 2000000
/-! EvC2: <, <=, >, >= of lists and of alike data (printed by gen_cmp.py). -/
namespace Ev
open PySem PySem.SeqAt
open AutoSeq1 (wpAny_loadPart')
open MeetsSeq MeetsSeq2 MeetsSeq3 SeqRoads2
/-- what both objects are, and what is known of their items -/
structure TwoL (op : CmpOp) (A : Around) (s : Shared) (l b : Addr) (ys zs : Array Value) (e r : Nat → Bool) : Prop where
  one : ∃ n dd sl, s.heap.get? l = some { cls := .type "list", dict := dd, data := .seq ys n, slots := sl }
  two : ∃ n dd sl, s.heap.get? b = some { cls := .type "list", dict := dd, data := .seq zs n, slots := sl }
  eq : ∀ j (h1 : j < ys.size) (h2 : j < zs.size), EqAt A.in1 s ys[j] zs[j] (e j)
  rc : ∀ j (h1 : j < ys.size) (h2 : j < zs.size), e j = false → Ob.RcOp op A.in1 s ys[j] zs[j] (r j)

theorem loop_lt (l b : Addr) (ys zs : Array Value) (e r : Nat → Bool) : ∀ (k i : Nat), min ys.size zs.size - i = k →
    Meets (Builtin.«list.__eq__.loop» ⟨[.ref l, .ref b, rawInt i, rawInt 0], []⟩) (fun A R s => TwoL .Lt A s l b ys zs e r ∧ R (.ok (.ret (.bool (Ob.lexAt e r (decide (ys.size < zs.size)) i k)))) s) := by
  intro k
  induction k with
  | zero =>
    intro i hk prog w A R s h
    obtain ⟨hp, g, d, tk, os⟩ := s
    obtain ⟨⟨⟨n, dd, sl, hl⟩, ⟨n2, dd2, sl2, hb⟩, he, hr⟩, h⟩ := h
    rw [Ob.lexAt_zero] at h
    wp_walk using wpAny_loadPart' hl, wpAny_loadPart' hb
    have none_at : ys[((i : Nat) : Int).toNat]? = none ∨ ∃ y, ys[((i : Nat) : Int).toNat]? = some y ∧ zs[((i : Nat) : Int).toNat]? = none := by
      rcases Nat.lt_or_ge i ys.size with hi | hi
      · exact .inr ⟨ys[i], by simp [hi], by simp; omega⟩
      · exact .inl (by simp; omega)
    rcases none_at with e1 | ⟨y, e1, e2⟩
    · rw [e1]
      wp_walk using wpAny_loadPart' hl, wpAny_loadPart' hb
      exact h
    · rw [e1, e2]
      wp_walk using wpAny_loadPart' hl, wpAny_loadPart' hb
      exact h
  | succ k ih =>
    intro i hk prog w A R s h
    obtain ⟨hp, g, d, tk, os⟩ := s
    obtain ⟨two, h⟩ := h
    obtain ⟨⟨n, dd, sl, hl⟩, ⟨n2, dd2, sl2, hb⟩, he, hr⟩ := id two
    rw [Ob.lexAt_succ] at h
    wp_walk using wpAny_loadPart' hl, wpAny_loadPart' hb
    have h1 : i < ys.size := by omega
    have h2 : i < zs.size := by omega
    have at1 : ys[((i : Nat) : Int).toNat]? = some ys[i] := by simp [h1]
    have at2 : zs[((i : Nat) : Int).toNat]? = some zs[i] := by simp [h2]
    have next : ((i : Int) + 1) = ((i + 1 : Nat) : Int) := by omega
    rw [at1, at2]
    refine wpAny_bind (he i h1 h2 prog w _ _ ?_)
    cases ei : e i with
    | true =>
      rw [if_pos ei] at h
      wp_walk
      rw [next]
      refine ⟨plainId_quiet plain_eq_loop _, codeAny_builtin entry_eq_loop ?_⟩
      rw [Around.under_plainId plain_eq_loop _]
      exact ih (i + 1) (by omega) prog w A R _ ⟨two, h⟩
    | false =>
      rw [if_neg (by rw [ei]; exact Bool.false_ne_true)] at h
      wp_walk using wpAny_loadPart' hl, wpAny_loadPart' hb
      rw [at1, at2]
      have hri := hr i h1 h2 ei prog w
      wp_walk using hri
      exact h
theorem meets_lt (l b : Addr) (ys zs : Array Value) (e r : Nat → Bool) :
    Meets (Builtin.«list.__lt__» ⟨[.ref l, .ref b], []⟩) (fun A R s => TwoL .Lt A s l b ys zs e r ∧ R (.ok (.ret (.bool (Ob.lexAt e r (decide (ys.size < zs.size)) 0 (min ys.size zs.size))))) s) := by
  intro prog w A R s h
  obtain ⟨hp, g, d, tk, os⟩ := s
  obtain ⟨two, h⟩ := h
  obtain ⟨⟨n, dd, sl, hl⟩, ⟨n2, dd2, sl2, hb⟩, he, hr⟩ := id two
  have f3 := AutoSeq1.sub_list_list
  wp_walk using wpAny_loadPart' hl, wpAny_loadPart' hb
  refine ⟨plainId_quiet plain_eq_loop _, codeAny_builtin entry_eq_loop ?_⟩
  rw [Around.under_plainId plain_eq_loop _]
  exact loop_lt l b ys zs e r _ 0 rfl prog w A R _ ⟨two, h⟩
theorem lists_lt {A : Around} {s : Shared} {l b : Addr} {ys zs : Array Value} {e r : Nat → Bool} (t : TwoL .Lt A s l b ys zs e r) (hu : A.units < cLine) :
    Ob.RcOp .Lt A s (.ref l) (.ref b) (Ob.lexAt e r (decide (ys.size < zs.size)) 0 (min ys.size zs.size)) := fun prog w E Q h => by
  obtain ⟨⟨n, dd, sl, hl⟩, ⟨n2, dd2, sl2, hb⟩, he, hr⟩ := id t
  exact richCompare_meets_room (op := .Lt) ⟨_, hl, rfl⟩ ⟨_, hb, rfl⟩ F.slot_list_lt F.entry_list_lt (F.args_list_lt_2 _ _) (meets_lt l b ys zs e r) ⟨t, ⟨(fun x => nomatch x), h⟩⟩ hu

theorem loop_le (l b : Addr) (ys zs : Array Value) (e r : Nat → Bool) : ∀ (k i : Nat), min ys.size zs.size - i = k →
    Meets (Builtin.«list.__eq__.loop» ⟨[.ref l, .ref b, rawInt i, rawInt 1], []⟩) (fun A R s => TwoL .LtE A s l b ys zs e r ∧ R (.ok (.ret (.bool (Ob.lexAt e r (decide (ys.size ≤ zs.size)) i k)))) s) := by
  intro k
  induction k with
  | zero =>
    intro i hk prog w A R s h
    obtain ⟨hp, g, d, tk, os⟩ := s
    obtain ⟨⟨⟨n, dd, sl, hl⟩, ⟨n2, dd2, sl2, hb⟩, he, hr⟩, h⟩ := h
    rw [Ob.lexAt_zero] at h
    wp_walk using wpAny_loadPart' hl, wpAny_loadPart' hb
    have none_at : ys[((i : Nat) : Int).toNat]? = none ∨ ∃ y, ys[((i : Nat) : Int).toNat]? = some y ∧ zs[((i : Nat) : Int).toNat]? = none := by
      rcases Nat.lt_or_ge i ys.size with hi | hi
      · exact .inr ⟨ys[i], by simp [hi], by simp; omega⟩
      · exact .inl (by simp; omega)
    rcases none_at with e1 | ⟨y, e1, e2⟩
    · rw [e1]
      wp_walk using wpAny_loadPart' hl, wpAny_loadPart' hb
      exact h
    · rw [e1, e2]
      wp_walk using wpAny_loadPart' hl, wpAny_loadPart' hb
      exact h
  | succ k ih =>
    intro i hk prog w A R s h
    obtain ⟨hp, g, d, tk, os⟩ := s
    obtain ⟨two, h⟩ := h
    obtain ⟨⟨n, dd, sl, hl⟩, ⟨n2, dd2, sl2, hb⟩, he, hr⟩ := id two
    rw [Ob.lexAt_succ] at h
    wp_walk using wpAny_loadPart' hl, wpAny_loadPart' hb
    have h1 : i < ys.size := by omega
    have h2 : i < zs.size := by omega
    have at1 : ys[((i : Nat) : Int).toNat]? = some ys[i] := by simp [h1]
    have at2 : zs[((i : Nat) : Int).toNat]? = some zs[i] := by simp [h2]
    have next : ((i : Int) + 1) = ((i + 1 : Nat) : Int) := by omega
    rw [at1, at2]
    refine wpAny_bind (he i h1 h2 prog w _ _ ?_)
    cases ei : e i with
    | true =>
      rw [if_pos ei] at h
      wp_walk
      rw [next]
      refine ⟨plainId_quiet plain_eq_loop _, codeAny_builtin entry_eq_loop ?_⟩
      rw [Around.under_plainId plain_eq_loop _]
      exact ih (i + 1) (by omega) prog w A R _ ⟨two, h⟩
    | false =>
      rw [if_neg (by rw [ei]; exact Bool.false_ne_true)] at h
      wp_walk using wpAny_loadPart' hl, wpAny_loadPart' hb
      rw [at1, at2]
      have hri := hr i h1 h2 ei prog w
      wp_walk using hri
      exact h
theorem meets_le (l b : Addr) (ys zs : Array Value) (e r : Nat → Bool) :
    Meets (Builtin.«list.__le__» ⟨[.ref l, .ref b], []⟩) (fun A R s => TwoL .LtE A s l b ys zs e r ∧ R (.ok (.ret (.bool (Ob.lexAt e r (decide (ys.size ≤ zs.size)) 0 (min ys.size zs.size))))) s) := by
  intro prog w A R s h
  obtain ⟨hp, g, d, tk, os⟩ := s
  obtain ⟨two, h⟩ := h
  obtain ⟨⟨n, dd, sl, hl⟩, ⟨n2, dd2, sl2, hb⟩, he, hr⟩ := id two
  have f3 := AutoSeq1.sub_list_list
  wp_walk using wpAny_loadPart' hl, wpAny_loadPart' hb
  refine ⟨plainId_quiet plain_eq_loop _, codeAny_builtin entry_eq_loop ?_⟩
  rw [Around.under_plainId plain_eq_loop _]
  exact loop_le l b ys zs e r _ 0 rfl prog w A R _ ⟨two, h⟩
theorem lists_le {A : Around} {s : Shared} {l b : Addr} {ys zs : Array Value} {e r : Nat → Bool} (t : TwoL .LtE A s l b ys zs e r) (hu : A.units < cLine) :
    Ob.RcOp .LtE A s (.ref l) (.ref b) (Ob.lexAt e r (decide (ys.size ≤ zs.size)) 0 (min ys.size zs.size)) := fun prog w E Q h => by
  obtain ⟨⟨n, dd, sl, hl⟩, ⟨n2, dd2, sl2, hb⟩, he, hr⟩ := id t
  exact richCompare_meets_room (op := .LtE) ⟨_, hl, rfl⟩ ⟨_, hb, rfl⟩ F.slot_list_le F.entry_list_le (F.args_list_le_2 _ _) (meets_le l b ys zs e r) ⟨t, ⟨(fun x => nomatch x), h⟩⟩ hu

theorem loop_gt (l b : Addr) (ys zs : Array Value) (e r : Nat → Bool) : ∀ (k i : Nat), min ys.size zs.size - i = k →
    Meets (Builtin.«list.__eq__.loop» ⟨[.ref l, .ref b, rawInt i, rawInt 4], []⟩) (fun A R s => TwoL .Gt A s l b ys zs e r ∧ R (.ok (.ret (.bool (Ob.lexAt e r (decide (ys.size > zs.size)) i k)))) s) := by
  intro k
  induction k with
  | zero =>
    intro i hk prog w A R s h
    obtain ⟨hp, g, d, tk, os⟩ := s
    obtain ⟨⟨⟨n, dd, sl, hl⟩, ⟨n2, dd2, sl2, hb⟩, he, hr⟩, h⟩ := h
    rw [Ob.lexAt_zero] at h
    wp_walk using wpAny_loadPart' hl, wpAny_loadPart' hb
    have none_at : ys[((i : Nat) : Int).toNat]? = none ∨ ∃ y, ys[((i : Nat) : Int).toNat]? = some y ∧ zs[((i : Nat) : Int).toNat]? = none := by
      rcases Nat.lt_or_ge i ys.size with hi | hi
      · exact .inr ⟨ys[i], by simp [hi], by simp; omega⟩
      · exact .inl (by simp; omega)
    rcases none_at with e1 | ⟨y, e1, e2⟩
    · rw [e1]
      wp_walk using wpAny_loadPart' hl, wpAny_loadPart' hb
      exact h
    · rw [e1, e2]
      wp_walk using wpAny_loadPart' hl, wpAny_loadPart' hb
      exact h
  | succ k ih =>
    intro i hk prog w A R s h
    obtain ⟨hp, g, d, tk, os⟩ := s
    obtain ⟨two, h⟩ := h
    obtain ⟨⟨n, dd, sl, hl⟩, ⟨n2, dd2, sl2, hb⟩, he, hr⟩ := id two
    rw [Ob.lexAt_succ] at h
    wp_walk using wpAny_loadPart' hl, wpAny_loadPart' hb
    have h1 : i < ys.size := by omega
    have h2 : i < zs.size := by omega
    have at1 : ys[((i : Nat) : Int).toNat]? = some ys[i] := by simp [h1]
    have at2 : zs[((i : Nat) : Int).toNat]? = some zs[i] := by simp [h2]
    have next : ((i : Int) + 1) = ((i + 1 : Nat) : Int) := by omega
    rw [at1, at2]
    refine wpAny_bind (he i h1 h2 prog w _ _ ?_)
    cases ei : e i with
    | true =>
      rw [if_pos ei] at h
      wp_walk
      rw [next]
      refine ⟨plainId_quiet plain_eq_loop _, codeAny_builtin entry_eq_loop ?_⟩
      rw [Around.under_plainId plain_eq_loop _]
      exact ih (i + 1) (by omega) prog w A R _ ⟨two, h⟩
    | false =>
      rw [if_neg (by rw [ei]; exact Bool.false_ne_true)] at h
      wp_walk using wpAny_loadPart' hl, wpAny_loadPart' hb
      rw [at1, at2]
      have hri := hr i h1 h2 ei prog w
      wp_walk using hri
      exact h
theorem meets_gt (l b : Addr) (ys zs : Array Value) (e r : Nat → Bool) :
    Meets (Builtin.«list.__gt__» ⟨[.ref l, .ref b], []⟩) (fun A R s => TwoL .Gt A s l b ys zs e r ∧ R (.ok (.ret (.bool (Ob.lexAt e r (decide (ys.size > zs.size)) 0 (min ys.size zs.size))))) s) := by
  intro prog w A R s h
  obtain ⟨hp, g, d, tk, os⟩ := s
  obtain ⟨two, h⟩ := h
  obtain ⟨⟨n, dd, sl, hl⟩, ⟨n2, dd2, sl2, hb⟩, he, hr⟩ := id two
  have f3 := AutoSeq1.sub_list_list
  wp_walk using wpAny_loadPart' hl, wpAny_loadPart' hb
  refine ⟨plainId_quiet plain_eq_loop _, codeAny_builtin entry_eq_loop ?_⟩
  rw [Around.under_plainId plain_eq_loop _]
  exact loop_gt l b ys zs e r _ 0 rfl prog w A R _ ⟨two, h⟩
theorem lists_gt {A : Around} {s : Shared} {l b : Addr} {ys zs : Array Value} {e r : Nat → Bool} (t : TwoL .Gt A s l b ys zs e r) (hu : A.units < cLine) :
    Ob.RcOp .Gt A s (.ref l) (.ref b) (Ob.lexAt e r (decide (ys.size > zs.size)) 0 (min ys.size zs.size)) := fun prog w E Q h => by
  obtain ⟨⟨n, dd, sl, hl⟩, ⟨n2, dd2, sl2, hb⟩, he, hr⟩ := id t
  exact richCompare_meets_room (op := .Gt) ⟨_, hl, rfl⟩ ⟨_, hb, rfl⟩ F.slot_list_gt F.entry_list_gt (F.args_list_gt_2 _ _) (meets_gt l b ys zs e r) ⟨t, ⟨(fun x => nomatch x), h⟩⟩ hu

theorem loop_ge (l b : Addr) (ys zs : Array Value) (e r : Nat → Bool) : ∀ (k i : Nat), min ys.size zs.size - i = k →
    Meets (Builtin.«list.__eq__.loop» ⟨[.ref l, .ref b, rawInt i, rawInt 5], []⟩) (fun A R s => TwoL .GtE A s l b ys zs e r ∧ R (.ok (.ret (.bool (Ob.lexAt e r (decide (ys.size ≥ zs.size)) i k)))) s) := by
  intro k
  induction k with
  | zero =>
    intro i hk prog w A R s h
    obtain ⟨hp, g, d, tk, os⟩ := s
    obtain ⟨⟨⟨n, dd, sl, hl⟩, ⟨n2, dd2, sl2, hb⟩, he, hr⟩, h⟩ := h
    rw [Ob.lexAt_zero] at h
    wp_walk using wpAny_loadPart' hl, wpAny_loadPart' hb
    have none_at : ys[((i : Nat) : Int).toNat]? = none ∨ ∃ y, ys[((i : Nat) : Int).toNat]? = some y ∧ zs[((i : Nat) : Int).toNat]? = none := by
      rcases Nat.lt_or_ge i ys.size with hi | hi
      · exact .inr ⟨ys[i], by simp [hi], by simp; omega⟩
      · exact .inl (by simp; omega)
    rcases none_at with e1 | ⟨y, e1, e2⟩
    · rw [e1]
      wp_walk using wpAny_loadPart' hl, wpAny_loadPart' hb
      exact h
    · rw [e1, e2]
      wp_walk using wpAny_loadPart' hl, wpAny_loadPart' hb
      exact h
  | succ k ih =>
    intro i hk prog w A R s h
    obtain ⟨hp, g, d, tk, os⟩ := s
    obtain ⟨two, h⟩ := h
    obtain ⟨⟨n, dd, sl, hl⟩, ⟨n2, dd2, sl2, hb⟩, he, hr⟩ := id two
    rw [Ob.lexAt_succ] at h
    wp_walk using wpAny_loadPart' hl, wpAny_loadPart' hb
    have h1 : i < ys.size := by omega
    have h2 : i < zs.size := by omega
    have at1 : ys[((i : Nat) : Int).toNat]? = some ys[i] := by simp [h1]
    have at2 : zs[((i : Nat) : Int).toNat]? = some zs[i] := by simp [h2]
    have next : ((i : Int) + 1) = ((i + 1 : Nat) : Int) := by omega
    rw [at1, at2]
    refine wpAny_bind (he i h1 h2 prog w _ _ ?_)
    cases ei : e i with
    | true =>
      rw [if_pos ei] at h
      wp_walk
      rw [next]
      refine ⟨plainId_quiet plain_eq_loop _, codeAny_builtin entry_eq_loop ?_⟩
      rw [Around.under_plainId plain_eq_loop _]
      exact ih (i + 1) (by omega) prog w A R _ ⟨two, h⟩
    | false =>
      rw [if_neg (by rw [ei]; exact Bool.false_ne_true)] at h
      wp_walk using wpAny_loadPart' hl, wpAny_loadPart' hb
      rw [at1, at2]
      have hri := hr i h1 h2 ei prog w
      wp_walk using hri
      exact h
theorem meets_ge (l b : Addr) (ys zs : Array Value) (e r : Nat → Bool) :
    Meets (Builtin.«list.__ge__» ⟨[.ref l, .ref b], []⟩) (fun A R s => TwoL .GtE A s l b ys zs e r ∧ R (.ok (.ret (.bool (Ob.lexAt e r (decide (ys.size ≥ zs.size)) 0 (min ys.size zs.size))))) s) := by
  intro prog w A R s h
  obtain ⟨hp, g, d, tk, os⟩ := s
  obtain ⟨two, h⟩ := h
  obtain ⟨⟨n, dd, sl, hl⟩, ⟨n2, dd2, sl2, hb⟩, he, hr⟩ := id two
  have f3 := AutoSeq1.sub_list_list
  wp_walk using wpAny_loadPart' hl, wpAny_loadPart' hb
  refine ⟨plainId_quiet plain_eq_loop _, codeAny_builtin entry_eq_loop ?_⟩
  rw [Around.under_plainId plain_eq_loop _]
  exact loop_ge l b ys zs e r _ 0 rfl prog w A R _ ⟨two, h⟩
theorem lists_ge {A : Around} {s : Shared} {l b : Addr} {ys zs : Array Value} {e r : Nat → Bool} (t : TwoL .GtE A s l b ys zs e r) (hu : A.units < cLine) :
    Ob.RcOp .GtE A s (.ref l) (.ref b) (Ob.lexAt e r (decide (ys.size ≥ zs.size)) 0 (min ys.size zs.size)) := fun prog w E Q h => by
  obtain ⟨⟨n, dd, sl, hl⟩, ⟨n2, dd2, sl2, hb⟩, he, hr⟩ := id t
  exact richCompare_meets_room (op := .GtE) ⟨_, hl, rfl⟩ ⟨_, hb, rfl⟩ F.slot_list_ge F.entry_list_ge (F.args_list_ge_2 _ _) (meets_ge l b ys zs e r) ⟨t, ⟨(fun x => nomatch x), h⟩⟩ hu

end Ev

set_option Elab.async false
set_option linter.all false
set_option maxRecDepth 100000
set_option maxHeartbeats 1000000
/-! EvC3: <, <=, >, >= of alike data. -/
namespace Ev
open PySem PySem.SeqAt
mutual
theorem alk_alike : ∀ x y : D, alk x y = true → W.alike x y = true
  | .none, y, h => by cases y <;> simp [alk] at h <;> simp [W.alike]
  | .bool _, y, h => by cases y <;> simp [alk] at h
  | .int _, y, h => by cases y <;> simp [alk] at h <;> simp [W.alike]
  | .str _, y, h => by cases y <;> simp [alk] at h <;> simp [W.alike]
  | .list xs, y, h => by
    cases y <;> simp [alk] at h
    simpa [W.alike] using alkAll_alike xs _ h
  | .tuple xs, y, h => by
    cases y <;> simp [alk] at h
    simpa [W.alike] using alkAll_alike xs _ h
  | .dict _, y, h => by cases y <;> simp [alk] at h
theorem alkAll_alike : ∀ xs ys : List D, alkAll xs ys = true → W.alikeAll xs ys = true
  | [], ys, _ => by cases ys <;> simp [W.alikeAll]
  | _ :: _, [], _ => by simp [W.alikeAll]
  | x :: xs, y :: ys, h => by
    simp only [alkAll, Bool.and_eq_true] at h
    simp only [W.alikeAll, alk_alike x y h.1, alkAll_alike xs ys h.2, Bool.and_self]
end
theorem alkAll_at : ∀ {xs ys : List D} {j : Nat} {x y : D}, alkAll xs ys = true → xs[j]? = some x → ys[j]? = some y → alk x y = true
  | [], _, _, _, _, _, e, _ => by simp at e
  | _ :: _, [], _, _, _, _, _, e => by simp at e
  | x :: xs, y :: ys, 0, _, _, h, e1, e2 => by
    simp only [alkAll, Bool.and_eq_true] at h
    simp at e1 e2
    subst e1 e2
    exact h.1
  | x :: xs, y :: ys, j + 1, _, _, h, e1, e2 => by
    simp only [alkAll, Bool.and_eq_true] at h
    exact alkAll_at (j := j) h.2 (by simpa using e1) (by simpa using e2)
theorem ordN_succ (o : COp) (m n : Nat) : ordN o (m + 1) (n + 1) = ordN o m n := by cases o <;> simp [ordN]
theorem lexAt_ord (o : COp) (e r : Nat → Bool) : ∀ (xs ys : List D) (i : Nat),
    (∀ j x y, xs[j]? = some x → ys[j]? = some y → e (i + j) = PyData.eqv x y ∧ r (i + j) = ordD o x y) →
    Ob.lexAt e r (ordN o xs.length ys.length) i (min xs.length ys.length) = ordAll o xs ys
  | [], ys, i, _ => by
    rw [List.length_nil, Nat.zero_min, Ob.lexAt_zero]
    cases ys <;> simp [ordAll]
  | x :: xs, [], i, _ => by
    rw [List.length_nil, Nat.min_zero, Ob.lexAt_zero]
    simp [ordAll]
  | x :: xs, y :: ys, i, h => by
    rw [List.length_cons, List.length_cons, Nat.succ_min_succ, Ob.lexAt_succ, ordN_succ]
    have h0 := h 0 x y rfl rfl
    rw [Nat.add_zero] at h0
    rw [h0.1, h0.2]
    have ih := lexAt_ord o e r xs ys (i + 1) fun j a b ea eb => by
      have := h (j + 1) a b (by simpa using ea) (by simpa using eb)
      rw [show i + 1 + j = i + (j + 1) by omega]
      exact this
    rw [ih]
    simp [ordAll]
def signOf : COp → CmpOp
  | .lt => .Lt
  | .le => .LtE
  | .gt => .Gt
  | _ => .GtE
theorem depth_at : ∀ {xs : List D} {j : Nat} {x : D}, xs[j]? = some x → x.depth ≤ PyData.depthAll xs
  | [], _, _, e => by simp at e
  | x :: xs, 0, _, e => by
    simp at e
    subst e
    simp only [PyData.depthAll]
    omega
  | x :: xs, j + 1, _, e => by
    have := depth_at (xs := xs) (j := j) (by simpa using e)
    simp only [PyData.depthAll]
    omega
theorem reads_at {h : Heap} : ∀ {xs : List D} {vs : List Value} {as : List Addr} {j : Nat} {x : D}, ReadsAll h vs xs as → xs[j]? = some x → ∃ v bs, vs[j]? = some v ∧ Reads h v x bs
  | [], _, _, _, _, _, e => by simp at e
  | x :: xs, _, _, 0, _, .cons r _, e => by
    simp at e
    subst e
    exact ⟨_, _, rfl, r⟩
  | x :: xs, _, _, j + 1, _, .cons _ t, e => by
    obtain ⟨v, bs, h1, h2⟩ := reads_at (j := j) t (by simpa using e)
    exact ⟨v, bs, by simpa using h1, h2⟩
/-- what the comparison of two rows of items asks -/
theorem row_ask (o : COp) {A : Around} {s : Shared} {xs ys : List D} {vs ws : Array Value} {as bs : List Addr} (ra : ReadsAll s.heap vs.toList xs as) (rb : ReadsAll s.heap ws.toList ys bs) (hal : alkAll xs ys = true)
    (hu : A.units + 1 + min (PyData.depthAll xs) (PyData.depthAll ys) < cLine)
    (ih : ∀ x y v w as bs, x ∈ xs → y ∈ ys → Reads s.heap v x as → Reads s.heap w y bs → alk x y = true → x ≠ .none → A.in1.units + min x.depth y.depth < cLine → Ob.RcOp (signOf o) A.in1 s v w (ordD o x y)) :
    (∀ j (h1 : j < vs.size) (h2 : j < ws.size), EqAt A.in1 s vs[j] ws[j] (PyData.eqv (xs.getD j .none) (ys.getD j .none))) ∧
    (∀ j (h1 : j < vs.size) (h2 : j < ws.size), PyData.eqv (xs.getD j .none) (ys.getD j .none) = false → Ob.RcOp (signOf o) A.in1 s vs[j] ws[j] (ordD o (xs.getD j .none) (ys.getD j .none))) ∧
    vs.size = xs.length ∧ ws.size = ys.length := by
  have n1 : vs.size = xs.length := by simpa using ReadsAll.length _ _ _ ra
  have n2 : ws.size = ys.length := by simpa using ReadsAll.length _ _ _ rb
  have at_ : ∀ j (h1 : j < vs.size) (h2 : j < ws.size), ∃ x y as bs, xs[j]? = some x ∧ ys[j]? = some y ∧ xs.getD j .none = x ∧ ys.getD j .none = y ∧ Reads s.heap vs[j] x as ∧ Reads s.heap ws[j] y bs ∧ alk x y = true ∧ A.in1.units + min x.depth y.depth < cLine := by
    intro j h1 h2
    have e1 : xs[j]? = some (xs[j]'(by omega)) := List.getElem?_eq_getElem (by omega)
    have e2 : ys[j]? = some (ys[j]'(by omega)) := List.getElem?_eq_getElem (by omega)
    obtain ⟨v, as', k1, r1⟩ := reads_at ra e1
    obtain ⟨w, bs', k2, r2⟩ := reads_at rb e2
    have k1' : vs[j] = v := by
      have : vs.toList[j]? = some vs[j] := by simp [h1]
      rw [this] at k1
      exact Option.some.inj k1
    have k2' : ws[j] = w := by
      have : ws.toList[j]? = some ws[j] := by simp [h2]
      rw [this] at k2
      exact Option.some.inj k2
    have d1 := depth_at e1
    have d2 := depth_at e2
    refine ⟨_, _, as', bs', e1, e2, by rw [List.getD_eq_getElem?_getD, e1]; rfl, by rw [List.getD_eq_getElem?_getD, e2]; rfl, by rw [k1']; exact r1, by rw [k2']; exact r2, alkAll_at hal e1 e2, ?_⟩
    show A.units + 1 + _ < _
    omega
  refine ⟨fun j h1 h2 => ?_, fun j h1 h2 e => ?_, n1, n2⟩
  · obtain ⟨x, y, as, bs, e1, e2, g1, g2, r1, r2, al, hd⟩ := at_ j h1 h2
    rw [g1, g2]
    exact W.eqAt_alike x y A.in1 s _ _ as bs r1 r2 (alk_alike x y al) hd
  · obtain ⟨x, y, as, bs, e1, e2, g1, g2, r1, r2, al, hd⟩ := at_ j h1 h2
    rw [g1, g2] at e ⊢
    exact ih x y _ _ as bs (List.mem_of_getElem? e1) (List.mem_of_getElem? e2) r1 r2 al (W.ne_none_of (alk_alike x y al) e) hd
theorem row_end (o : COp) (xs ys : List D) {m n : Nat} (h1 : m = xs.length) (h2 : n = ys.length) :
    Ob.lexAt (fun j => PyData.eqv (xs.getD j .none) (ys.getD j .none)) (fun j => ordD o (xs.getD j .none) (ys.getD j .none)) (ordN o m n) 0 (min m n) = ordAll o xs ys := by
  subst h1 h2
  refine lexAt_ord o _ _ xs ys 0 fun j x y e1 e2 => ?_
  rw [Nat.zero_add, List.getD_eq_getElem?_getD, e1, List.getD_eq_getElem?_getD, e2]
  exact ⟨rfl, rfl⟩
theorem isTup_of {h : Heap} {l : Addr} {o : Obj} {vs : Array Value} {n : Nat} (h1 : h.get? l = some o) (h2 : o.cls = .type "tuple") (h3 : o.data = .seq vs n) : h.IsTuple l vs := ⟨o, h1, h2, n, h3⟩
theorem rc_list (o : COp) (h4 : o = .lt ∨ o = .le ∨ o = .gt ∨ o = .ge) {A : Around} {s : Shared} {l b : Addr} {xs ys : List D} {as bs : List Addr} (ra : Reads s.heap (.ref l) (.list xs) as) (rb : Reads s.heap (.ref b) (.list ys) bs) (hal : alkAll xs ys = true)
    (hu : A.units + min (PyData.depth (.list xs)) (PyData.depth (.list ys)) < cLine)
    (ih : ∀ x y v w as bs, x ∈ xs → y ∈ ys → Reads s.heap v x as → Reads s.heap w y bs → alk x y = true → x ≠ .none → A.in1.units + min x.depth y.depth < cLine → Ob.RcOp (signOf o) A.in1 s v w (ordD o x y)) :
    Ob.RcOp (signOf o) A s (.ref l) (.ref b) (ordAll o xs ys) := by
  simp only [PyData.depth] at hu
  cases ra with
  | @list _ ob vs n _ _ h1 h2 h3 k1 =>
    cases rb with
    | @list _ ob2 ws n2 _ _ g1 g2 g3 k2 =>
      obtain ⟨oc, od, odt, osl⟩ := ob
      obtain ⟨oc2, od2, odt2, osl2⟩ := ob2
      simp only at h2 h3 g2 g3
      subst h2 h3 g2 g3
      obtain ⟨q1, q2, m1, m2⟩ := row_ask o k1 k2 hal (by omega) ih
      have e := row_end o xs ys m1 m2
      rw [← e]
      have hu0 : A.units < cLine := by omega
      rcases h4 with rfl | rfl | rfl | rfl
      · exact lists_lt ⟨⟨_, _, _, h1⟩, ⟨_, _, _, g1⟩, q1, q2⟩ hu0
      · exact lists_le ⟨⟨_, _, _, h1⟩, ⟨_, _, _, g1⟩, q1, q2⟩ hu0
      · exact lists_gt ⟨⟨_, _, _, h1⟩, ⟨_, _, _, g1⟩, q1, q2⟩ hu0
      · exact lists_ge ⟨⟨_, _, _, h1⟩, ⟨_, _, _, g1⟩, q1, q2⟩ hu0
theorem rc_tuple (o : COp) (h4 : o = .lt ∨ o = .le ∨ o = .gt ∨ o = .ge) {A : Around} {s : Shared} {l b : Addr} {xs ys : List D} {as bs : List Addr} (ra : Reads s.heap (.ref l) (.tuple xs) as) (rb : Reads s.heap (.ref b) (.tuple ys) bs) (hal : alkAll xs ys = true)
    (hu : A.units + min (PyData.depth (.tuple xs)) (PyData.depth (.tuple ys)) < cLine)
    (ih : ∀ x y v w as bs, x ∈ xs → y ∈ ys → Reads s.heap v x as → Reads s.heap w y bs → alk x y = true → x ≠ .none → A.in1.units + min x.depth y.depth < cLine → Ob.RcOp (signOf o) A.in1 s v w (ordD o x y)) :
    Ob.RcOp (signOf o) A s (.ref l) (.ref b) (ordAll o xs ys) := by
  simp only [PyData.depth] at hu
  cases ra with
  | @tuple _ ob vs n _ _ h1 h2 h3 k1 =>
    cases rb with
    | @tuple _ ob2 ws n2 _ _ g1 g2 g3 k2 =>
      obtain ⟨q1, q2, m1, m2⟩ := row_ask o k1 k2 hal (by omega) ih
      have e := row_end o xs ys m1 m2
      rw [← e]
      have hu0 : A.units < cLine := by omega
      rcases h4 with rfl | rfl | rfl | rfl
      · exact Ob.RcOp.tuples_lt (isTup_of h1 h2 h3) (isTup_of g1 g2 g3) hu0 q1 q2
      · exact Ob.RcOp.tuples_le (isTup_of h1 h2 h3) (isTup_of g1 g2 g3) hu0 q1 q2
      · exact Ob.RcOp.tuples_gt (isTup_of h1 h2 h3) (isTup_of g1 g2 g3) hu0 q1 q2
      · exact Ob.RcOp.tuples_ge (isTup_of h1 h2 h3) (isTup_of g1 g2 g3) hu0 q1 q2
theorem rc_ord (o : COp) (h4 : o = .lt ∨ o = .le ∨ o = .gt ∨ o = .ge) : ∀ (n : Nat) (da db : D) (A : Around) (s : Shared) (a b : Value) (as bs : List Addr), ok n da = true → Reads s.heap a da as → Reads s.heap b db bs → alk da db = true → da ≠ .none →
    A.units + min da.depth db.depth < cLine → Ob.RcOp (signOf o) A s a b (ordD o da db) := by
  intro n
  induction n with
  | zero =>
    intro da db A s a b as bs okn ra rb h hn hu
    cases da <;> cases db <;> simp only [alk, reduceCtorEq, Bool.false_eq_true, ok] at h hn okn
    · exact absurd rfl hn
    · cases ra; cases rb
      rcases h4 with rfl | rfl | rfl | rfl
      · exact fun _ _ _ _ q => PyProof.Rows.lt_int q
      · exact fun _ _ _ _ q => PyProof.Rows.le_int q
      · exact fun _ _ _ _ q => PyProof.Rows.gt_int q
      · exact fun _ _ _ _ q => PyProof.Rows.ge_int q
    · cases ra; cases rb
      rcases h4 with rfl | rfl | rfl | rfl
      · exact fun _ _ _ _ q => P.lt_str q
      · exact fun _ _ _ _ q => P.le_str q
      · exact fun _ _ _ _ q => P.gt_str q
      · exact fun _ _ _ _ q => P.ge_str q
  | succ n ih =>
    intro da db A s a b as bs okn ra rb h hn hu
    have items : ∀ xs : List D, okAll n xs = true → ∀ x ∈ xs, ok n x = true := by
      intro xs
      induction xs with
      | nil => intro _ x hx; cases hx
      | cons y ys ihy =>
        intro e x hx
        simp only [okAll, Bool.and_eq_true] at e
        rcases List.mem_cons.mp hx with rfl | hx
        · exact e.1
        · exact ihy e.2 x hx
    cases da <;> cases db <;> simp only [alk, reduceCtorEq, Bool.false_eq_true] at h hn
    · exact absurd rfl hn
    · cases ra; cases rb
      rcases h4 with rfl | rfl | rfl | rfl
      · exact fun _ _ _ _ q => PyProof.Rows.lt_int q
      · exact fun _ _ _ _ q => PyProof.Rows.le_int q
      · exact fun _ _ _ _ q => PyProof.Rows.gt_int q
      · exact fun _ _ _ _ q => PyProof.Rows.ge_int q
    · cases ra; cases rb
      rcases h4 with rfl | rfl | rfl | rfl
      · exact fun _ _ _ _ q => P.lt_str q
      · exact fun _ _ _ _ q => P.le_str q
      · exact fun _ _ _ _ q => P.gt_str q
      · exact fun _ _ _ _ q => P.ge_str q
    · have oks := items _ (by simpa only [ok] using okn)
      obtain ⟨l, rfl⟩ : ∃ l, a = .ref l := by cases ra; exact ⟨_, rfl⟩
      obtain ⟨l2, rfl⟩ : ∃ l, b = .ref l := by cases rb; exact ⟨_, rfl⟩
      simp only [ordD]
      exact rc_list o h4 ra rb h hu fun x y v w as bs hx hy r1 r2 al nn hd => ih x y A.in1 s v w as bs (oks x hx) r1 r2 al nn hd
    · have oks := items _ (by simpa only [ok] using okn)
      obtain ⟨l, rfl⟩ : ∃ l, a = .ref l := by cases ra; exact ⟨_, rfl⟩
      obtain ⟨l2, rfl⟩ : ∃ l, b = .ref l := by cases rb; exact ⟨_, rfl⟩
      simp only [ordD]
      exact rc_tuple o h4 ra rb h hu fun x y v w as bs hx hy r1 r2 al nn hd => ih x y A.in1 s v w as bs (oks x hx) r1 r2 al nn hd
end Ev

namespace Ev
open PySem PySem.Spec PyProof.Rows L2
section
variable {X : Cx}
theorem opc_ord (o : COp) (h4 : o = .lt ∨ o = .le ∨ o = .gt ∨ o = .ge) (hu : X.A.units + 65 < cLine) : OpR X (compareOp (signOf o)) (rD X.K (bR (cop o))) := by
  rintro pins s σ H x y v u Q I rx ry ⟨G, d, e, r, l, kx, ky, hb, p⟩
  have hb' : (if (alk d e && !isNone d && ok 60 d && ok 60 e) = true then some (R.val (.bool (ordD o d e))) else none) = some r := by
    rw [← hb]
    rcases h4 with rfl | rfl | rfl | rfl <;> (simp only [bR, cop]; split <;> rfl)
  split at hb'
  · rename_i hz
    simp only [Bool.and_eq_true, Bool.not_eq_true'] at hz
    obtain ⟨⟨⟨hz1, hz2⟩, hz3⟩, hz4⟩ := hz
    cases hb'
    obtain ⟨as, r1⟩ := Dp.reads I d x v (Rp.dp 60 d _ hz3 (kx.rp l)) rx
    obtain ⟨bs, r2⟩ := Dp.reads I e y u (Rp.dp 60 e _ hz4 (ky.rp l)) ry
    have hn : d ≠ .none := by
      rintro rfl
      simp [isNone] at hz2
    have hd := (ok_lay 60 d hz3).2
    have R := rc_ord o h4 60 d e X.A s v u as bs hz3 r1 r2 hz1 hn (by omega)
    have fin : EP X pins σ Q (.bool (ordD o d e)) s := ⟨.bl _, H, I, rfl, p.val l (.bl _)⟩
    have z := R X.prog X.w X.xe (EP X pins σ Q) fin
    rcases h4 with rfl | rfl | rfl | rfl <;> exact z
  · cases hb'
end
def cmpOf : COp → CmpOp
  | .eq => .Eq
  | .ne => .NotEq
  | .lt => .Lt
  | .le => .LtE
  | .gt => .Gt
  | .ge => .GtE
  | .isin => .In
  | .notin => .NotIn
  | .iss => .Is
  | .isnot => .IsNot
theorem opc {X : Cx} (hu : X.A.units + 65 < cLine) (o : COp) : OpR X (compareOp (cmpOf o)) (rD X.K (bR (cop o))) := by
  cases o
  · exact opc_eq hu
  · exact opc_ne hu
  · exact opc_ord .lt (by simp) hu
  · exact opc_ord .le (by simp) hu
  · exact opc_ord .gt (by simp) hu
  · exact opc_ord .ge (by simp) hu
  · exact opc_in hu
  · exact opc_notin hu
  · exact opc_is
  · exact opc_isnot
end Ev

set_option Elab.async false
set_option linter.all false
set_option maxRecDepth 100000
set_option maxHeartbeats 1000000
/-! EvD: the built-ins, subscripts and slices of the plain data. -/
namespace Ev
open PySem PySem.Spec PyProof.Rows L2
inductive LkAll (K : PySem.W.Frag) (G H : Hp) : List V → List D → Prop
  | nil : LkAll K G H [] []
  | cons {v : V} {vs : List V} {d : D} {ds : List D} : Lk K G H v d → LkAll K G H vs ds → LkAll K G H (v :: vs) (d :: ds)
def rL (K : PySem.W.Frag) (f : List D → Option R) : List V → Hp → VK → Prop := fun xs H Q => ∃ G ds r, Le G H ∧ LkAll K G H xs ds ∧ f ds = some r ∧ Post K G H r Q
section
variable {K : PySem.W.Frag} {G H : Hp}
theorem LkAll.one {xs : List V} {d : D} (h : LkAll K G H xs [d]) : ∃ v, xs = [v] ∧ Lk K G H v d := by
  cases h with | cons h1 h2 => cases h2; exact ⟨_, rfl, h1⟩
theorem LkAll.two {xs : List V} {d e : D} (h : LkAll K G H xs [d, e]) : ∃ v w, xs = [v, w] ∧ Lk K G H v d ∧ Lk K G H w e := by
  cases h with
  | cons h1 h2 =>
    obtain ⟨w, rfl, h3⟩ := h2.one
    exact ⟨_, w, rfl, h1, h3⟩
theorem LkAll.three {xs : List V} {d e f : D} (h : LkAll K G H xs [d, e, f]) : ∃ v w z, xs = [v, w, z] ∧ Lk K G H v d ∧ Lk K G H w e ∧ Lk K G H z f := by
  cases h with
  | cons h1 h2 =>
    obtain ⟨w, z, rfl, h3, h4⟩ := h2.two
    exact ⟨_, w, z, rfl, h1, h3, h4⟩
theorem rp_bools : ∀ {vs : List V} {xs : List D} {bs : List Bool}, RpAll K G vs xs → boolsD xs = some bs → vs = bs.map V.bl
  | _, [], bs, .nil, e => by simp [boolsD] at e; subst e; rfl
  | _, x :: xs, bs, .cons r t, e => by
    cases x <;> simp only [boolsD, reduceCtorEq] at e
    split at e
    · rename_i is h
      cases e
      cases r
      rw [rp_bools t h]
      rfl
    · cases e
theorem rp_ints : ∀ {vs : List V} {xs : List D} {bs : List Int}, RpAll K G vs xs → intsD xs = some bs → vs = bs.map V.int
  | _, [], bs, .nil, e => by simp [intsD] at e; subst e; rfl
  | _, x :: xs, bs, .cons r t, e => by
    cases x <;> simp only [intsD, reduceCtorEq] at e
    split at e
    · rename_i is h
      cases e
      cases r
      rw [rp_ints t h]
      rfl
    · cases e
theorem rp_strs : ∀ {vs : List V} {xs : List D} {bs : List Str}, RpAll K G vs xs → strsD xs = some bs → vs = bs.map V.str
  | _, [], bs, .nil, e => by simp [strsD] at e; subst e; rfl
  | _, x :: xs, bs, .cons r t, e => by
    cases x <;> simp only [strsD, reduceCtorEq] at e
    split at e
    · rename_i is h
      cases e
      cases r
      rw [rp_strs t h]
      rfl
    · cases e
end
section
variable {X : Cx}
theorem cb_len : CallR X (.builtin "len") (rL X.K (biD .len)) := by
  rintro pins s σ H xs us Q I r ⟨G, ds, res, l, k, hb, p⟩
  match ds, hb with
  | [.str x], hb =>
    obtain ⟨v, rfl, k1⟩ := k.one
    obtain ⟨rfl, zs⟩ := k1.str
    simp only [biD] at hb
    cases hb
    exact call_len_str pins s σ H _ us Q I r ⟨x, rfl, big_line zs, p.val l (.int _)⟩
  | [.list ys], hb =>
    obtain ⟨v, rfl, k1⟩ := k.one
    obtain ⟨a, vs, rfl, h1, r1, z1⟩ := k1.list l
    simp only [biD] at hb
    cases hb
    refine call_len_seq pins s σ H _ us Q I r ⟨a, vs, rfl, .inl h1, ?_⟩
    rw [r1.length]
    exact p.val l (.int _)
  | [.tuple ys], hb =>
    obtain ⟨v, rfl, k1⟩ := k.one
    obtain ⟨a, vs, rfl, h1, r1, z1⟩ := k1.tuple l
    simp only [biD] at hb
    cases hb
    refine call_len_seq pins s σ H _ us Q I r ⟨a, vs, rfl, .inr (l.st h1), ?_⟩
    rw [r1.length]
    exact p.val l (.int _)
theorem cb_all (hc : X.calm = true) : CallR X (.builtin "all") (rL X.K (biD .all)) := by
  rintro pins s σ H xs us Q I r ⟨G, ds, res, l, k, hb, p⟩
  match ds, hb with
  | [.list ys], hb =>
    obtain ⟨v, rfl, k1⟩ := k.one
    obtain ⟨a, vs, rfl, h1, r1, z1⟩ := k1.list l
    simp only [biD] at hb
    cases e : boolsD ys with
    | none => rw [e] at hb; cases hb
    | some bs =>
      rw [e] at hb
      cases hb
      have ev := rp_bools r1 e
      subst ev
      exact cr_all hc pins s σ H _ us Q I r ⟨a, bs, rfl, h1, p.val l (.bl _)⟩
theorem cb_any (hc : X.calm = true) : CallR X (.builtin "any") (rL X.K (biD .any)) := by
  rintro pins s σ H xs us Q I r ⟨G, ds, res, l, k, hb, p⟩
  match ds, hb with
  | [.list ys], hb =>
    obtain ⟨v, rfl, k1⟩ := k.one
    obtain ⟨a, vs, rfl, h1, r1, z1⟩ := k1.list l
    simp only [biD] at hb
    cases e : boolsD ys with
    | none => rw [e] at hb; cases hb
    | some bs =>
      rw [e] at hb
      cases hb
      have ev := rp_bools r1 e
      subst ev
      exact cr_any hc pins s σ H _ us Q I r ⟨a, bs, rfl, h1, p.val l (.bl _)⟩
theorem cb_sum (hc : X.calm = true) : CallR X (.builtin "sum") (rL X.K (biD .sum)) := by
  rintro pins s σ H xs us Q I r ⟨G, ds, res, l, k, hb, p⟩
  match ds, hb with
  | [.list ys], hb =>
    obtain ⟨v, rfl, k1⟩ := k.one
    obtain ⟨a, vs, rfl, h1, r1, z1⟩ := k1.list l
    simp only [biD] at hb
    cases e : intsD ys with
    | none => rw [e] at hb; cases hb
    | some bs =>
      rw [e] at hb
      cases hb
      have ev := rp_ints r1 e
      subst ev
      exact cr_sum hc pins s σ H _ us Q I r ⟨a, bs, rfl, h1, p.val l (.int _)⟩
theorem cb_max2 (hc : X.calm = true) : CallR X (.builtin "max") (rL X.K (biD .max2)) := by
  rintro pins s σ H xs us Q I r ⟨G, ds, res, l, k, hb, p⟩
  match ds, hb with
  | [.int i, .int j], hb =>
    obtain ⟨v, w, rfl, k1, k2⟩ := k.two
    cases k1.int
    cases k2.int
    simp only [biD] at hb
    cases hb
    exact call_max2 hc pins s σ H _ us Q I r ⟨i, j, rfl, p.val l (.int _)⟩
theorem cb_min2 (hc : X.calm = true) : CallR X (.builtin "min") (rL X.K (biD .min2)) := by
  rintro pins s σ H xs us Q I r ⟨G, ds, res, l, k, hb, p⟩
  match ds, hb with
  | [.int i, .int j], hb =>
    obtain ⟨v, w, rfl, k1, k2⟩ := k.two
    cases k1.int
    cases k2.int
    simp only [biD] at hb
    cases hb
    exact call_min2 hc pins s σ H _ us Q I r ⟨i, j, rfl, p.val l (.int _)⟩
theorem cb_tuple : CallR X (.type "tuple") (rL X.K (biD .tuple)) := by
  rintro pins s σ H xs us Q I r ⟨G, ds, res, l, k, hb, p⟩
  match ds, hb with
  | [.list ys], hb =>
    obtain ⟨v, rfl, k1⟩ := k.one
    obtain ⟨a, vs, rfl, h1, r1, z1⟩ := k1.list l
    simp only [biD] at hb
    cases hb
    exact call_tuple_of pins s σ H _ us Q I r ⟨a, vs, rfl, .inl ⟨h1, p.tup l r1 z1⟩⟩
  | [.tuple ys], hb =>
    obtain ⟨v, rfl, k1⟩ := k.one
    obtain ⟨a, vs, rfl, h1, r1, z1⟩ := k1.tuple l
    simp only [biD] at hb
    cases hb
    exact call_tuple_of pins s σ H _ us Q I r ⟨a, vs, rfl, .inr ⟨l.st h1, p.val l (.tup h1 r1 z1)⟩⟩
theorem keys_rp {K : PySem.W.Frag} {G : Hp} : ∀ {kvs : List (Key × V)} {ps : List (D × D)}, RpKv K G kvs ps → RpAll K G (kvs.map fun kv => kV kv.1) (keysD ps)
  | _, _, .nil => .nil
  | _, _, .cons r t z => .cons (.str _ z) (keys_rp t)
theorem keys_len : ∀ ps : List (D × D), (keysD ps).length = ps.length
  | [] => rfl
  | (_, _) :: r => congrArg Nat.succ (keys_len r)
theorem cb_list (hc : X.calm = true) : CallR X (.type "list") (rL X.K (biD .list)) := by
  rintro pins s σ H xs us Q I r ⟨G, ds, res, l, k, hb, p⟩
  match ds, hb with
  | [.list ys], hb =>
    obtain ⟨v, rfl, k1⟩ := k.one
    obtain ⟨a, vs, rfl, h1, r1, z1⟩ := k1.list l
    simp only [biD] at hb
    cases hb
    exact call_list_of pins s σ H _ us Q I r ⟨a, vs, rfl, .inl h1, p.lst l r1 z1⟩
  | [.tuple ys], hb =>
    obtain ⟨v, rfl, k1⟩ := k.one
    obtain ⟨a, vs, rfl, h1, r1, z1⟩ := k1.tuple l
    simp only [biD] at hb
    cases hb
    exact call_list_of pins s σ H _ us Q I r ⟨a, vs, rfl, .inr (l.st h1), p.lst l r1 z1⟩
  | [.dict ps], hb =>
    obtain ⟨v, rfl, k1⟩ := k.one
    obtain ⟨a, kvs, rfl, h1, r1, z1⟩ := k1.dict
    simp only [biD] at hb
    cases hb
    exact call_list_dK hc pins s σ H _ us Q I r ⟨a, kvs, rfl, l _ _ h1, p.lst l (keys_rp r1) (by rw [keys_len]; exact z1)⟩
theorem cb_int : CallR X (.type "int") (rL X.K (biD .int)) := by
  rintro pins s σ H xs us Q I r ⟨G, ds, res, l, k, hb, p⟩
  match ds, hb with
  | [.int i], hb =>
    obtain ⟨v, rfl, k1⟩ := k.one
    cases k1.int
    simp only [biD] at hb
    cases hb
    exact call_int1 pins s σ H _ us Q I r (.inl ⟨i, rfl, p.val l (.int _)⟩)
  | [.bool i], hb =>
    obtain ⟨v, rfl, k1⟩ := k.one
    cases k1.bool
    simp only [biD] at hb
    cases hb
    exact call_int1 pins s σ H _ us Q I r (.inr ⟨i, rfl, p.val l (.int _)⟩)
  | [.str x], hb =>
    obtain ⟨v, rfl, k1⟩ := k.one
    obtain ⟨rfl, zs⟩ := k1.str
    simp only [biD] at hb
    split at hb
    · rename_i hz
      cases e : PySem.intText? x with
      | none => rw [e] at hb; cases hb
      | some n =>
        rw [e] at hb
        cases hb
        exact call_int_str pins s σ H _ us Q I r ⟨x, n, rfl, e, hz, p.val l (.int _)⟩
    · cases hb

/-! ### subscripts, slices -/
theorem RpAll.ix {K : PySem.W.Frag} {G : Hp} {vs : List V} {ds : List D} {i : Int} {d : D} (h : RpAll K G vs ds) (e : atI ds i = some d) : ∃ v, atI vs i = some v ∧ Rp K G v d := by
  unfold atI at e ⊢
  rw [h.length]
  cases q : ixN ds.length i with
  | none => rw [q] at e; cases e
  | some j =>
    rw [q] at e
    exact h.get e
theorem ix_D (hu : X.A.units + 65 < cLine) : IxR X (rD X.K (fun d e => (subD d e).map .val)) := by
  rintro value slice pins s σ H x y v u Q I rx ry ⟨G, d, e, r, l, kx, ky, hb, p⟩ hs
  have hb : (subD d e).map R.val = some r := hb
  cases q : subD d e with
  | none => rw [q] at hb; cases hb
  | some z =>
    rw [q] at hb
    cases hb
    match d, e, q with
    | .list xs, .int i, q =>
      cases ky.int
      obtain ⟨a, vs, rfl, h1, r1, z1⟩ := kx.list l
      obtain ⟨w, e1, r2⟩ := r1.ix q
      exact ix_list value slice pins s σ H _ _ v u Q I rx ry ⟨a, vs, i, w, rfl, rfl, h1, e1, p.val l r2⟩ hs
    | .tuple xs, .int i, q =>
      cases ky.int
      obtain ⟨a, vs, rfl, h1, r1, z1⟩ := kx.tuple l
      obtain ⟨w, e1, r2⟩ := r1.ix q
      exact ix_tup value slice pins s σ H _ _ v u Q I rx ry ⟨a, vs, i, w, rfl, rfl, l.st h1, e1, p.val l r2⟩ hs
    | .dict ps, .str k, q =>
      obtain ⟨rfl, zs⟩ := ky.str
      obtain ⟨a, kvs, rfl, h1, r1, z1⟩ := kx.dict
      obtain ⟨w, e1, r2⟩ := (valV_look k r1).1 z q
      have g : DGet H a (kV (Sum.inr k)) (some w) := by
        rw [← e1]
        exact DGet.k (l _ _ h1)
      cases rx
      exact tail_any (dict_typeIs I g) PySem.F.slot_dict_getitem.lookup (d_getItem (by omega) I g ry fun w' s3 I3 rw' => ⟨w, H, I3, rw', p.val l r2⟩) hs
theorem Le.rfl' {G : Hp} : Le G G := fun _ _ e => e
theorem sIx_lo (n : Nat) (i : Int) (d : Nat) : HT.sIx n d (some i) = if 0 ≤ i then min i.toNat n else n - i.natAbs := by
  show (if i < 0 then (i + (n : Int)).toNat else min i.toNat n) = _
  by_cases h : 0 ≤ i
  · rw [if_pos h, if_neg (by omega)]
  · rw [if_neg h, if_pos (by omega)]
    omega
theorem cutF_any {α : Type} (xs : List α) (i : Int) : (xs.drop (HT.sIx xs.length 0 (some i))).take (HT.sIx xs.length xs.length none - HT.sIx xs.length 0 (some i)) = cutF xs i := by
  unfold cutF
  rw [sIx_lo, HT.sIx_none]
  split
  · by_cases h : i.toNat ≤ xs.length
    · rw [Nat.min_eq_left h, List.take_of_length_le (by rw [List.length_drop]; omega)]
    · rw [Nat.min_eq_right (by omega), List.drop_of_length_le (by omega), List.drop_of_length_le (by omega)]
      simp
  · rw [List.take_of_length_le (by rw [List.length_drop]; omega)]
theorem cutT_any {α : Type} (xs : List α) (i : Int) : (xs.drop (HT.sIx xs.length 0 none)).take (HT.sIx xs.length xs.length (some i) - HT.sIx xs.length 0 none) = cutT xs i := by
  unfold cutT
  rw [sIx_lo, HT.sIx_none]
  split
  · rw [List.drop_zero, Nat.sub_zero]
    by_cases h : i.toNat ≤ xs.length
    · rw [Nat.min_eq_left h]
    · rw [Nat.min_eq_right (by omega), List.take_of_length_le (Nat.le_refl _), List.take_of_length_le (by omega)]
  · rw [List.drop_zero, Nat.sub_zero]
theorem cut_len {α : Type} (xs : List α) (i : Int) : (cutF xs i).length ≤ xs.length ∧ (cutT xs i).length ≤ xs.length := by
  unfold cutF cutT
  split <;> simp only [List.length_drop, List.length_take] <;> omega
theorem cutF_eq (xs : List V) (i : Int) : cutV xs (some i) none = cutF xs i := cutF_any xs i
theorem cutT_eq (xs : List V) (i : Int) : cutV xs none (some i) = cutT xs i := cutT_any xs i
theorem cutF_str (z : Str) (i : Int) : cutS z (some i) none = ⟨(cutF z.cps.toList i).toArray⟩ := by
  unfold cutS
  have e : z.length = z.cps.toList.length := by simp [Str.length]
  rw [e, cutF_any]
theorem cutT_str (z : Str) (i : Int) : cutS z none (some i) = ⟨(cutT z.cps.toList i).toArray⟩ := by
  unfold cutS
  have e : z.length = z.cps.toList.length := by simp [Str.length]
  rw [e, cutT_any]
theorem RpAll.cutF {K : PySem.W.Frag} {G : Hp} {vs : List V} {ds : List D} (h : RpAll K G vs ds) (i : Int) : RpAll K G (Ev.cutF vs i) (Ev.cutF ds i) := by
  unfold Ev.cutF
  rw [h.length]
  split
  · exact h.drop _
  · exact h.drop _
theorem RpAll.cutT {K : PySem.W.Frag} {G : Hp} {vs : List V} {ds : List D} (h : RpAll K G vs ds) (i : Int) : RpAll K G (Ev.cutT vs i) (Ev.cutT ds i) := by
  unfold Ev.cutT
  rw [h.length]
  split
  · exact h.take _
  · exact h.take _
def rS (K : PySem.W.Frag) (lo : Bool) : V → Option Int → Option Int → Hp → VK → Prop := fun x a b H Q => ∃ G d i r, Le G H ∧ Lk K G H x d ∧ (if lo then a = some i ∧ b = none ∧ slfD d (.int i) = some r else a = none ∧ b = some i ∧ sltD d (.int i) = some r) ∧ Post K G H r Q
theorem sl_D (lo : Bool) : SlR X (rS X.K lo) := by
  rintro pins s σ H x v vl vu a b sl Q I rx hs pl pu ⟨G, d, i, r, l, kx, hb, p⟩
  cases lo with
  | true =>
    simp only [if_true] at hb
    obtain ⟨rfl, rfl, hb⟩ := hb
    cases d <;> simp only [slfD, reduceCtorEq] at hb
    · rename_i z
      obtain ⟨rfl, zs⟩ := kx.str
      cases hb
      refine sl_str pins s σ H _ v vl vu _ _ sl Q I rx hs pl pu ⟨z, rfl, big_line zs, ?_⟩
      rw [cutF_str]
      refine p.val l (.str _ (Nat.le_trans ?_ zs))
      have e := (cut_len z.cps.toList i).1
      simpa [Str.length] using e
    · cases hb
      obtain ⟨a, vs, rfl, h1, r1, z1⟩ := kx.list l
      refine sl_list pins s σ H _ v vl vu _ _ sl Q I rx hs pl pu ⟨a, vs, rfl, h1, ?_⟩
      rw [cutF_eq]
      exact p.lst l (r1.cutF i) (Nat.le_trans (cut_len _ _).1 z1)
    · cases hb
      obtain ⟨a, vs, rfl, h1, r1, z1⟩ := kx.tuple l
      refine sl_tupA pins s σ H _ v vl vu _ _ sl Q I rx hs pl pu ⟨a, vs, rfl, l.st h1, fun hw => ?_, fun _ => ?_⟩
      · have e : Ev.cutF vs i = vs := by
          rw [← cutF_eq]
          unfold cutV
          rw [hw.1, hw.2, List.drop_zero, Nat.sub_zero, List.take_length]
        have r2 := r1.cutF i
        rw [e] at r2
        exact p.val l (.tup h1 r2 (Nat.le_trans (cut_len _ _).1 z1))
      · rw [cutF_eq]
        exact p.tup l (r1.cutF i) (Nat.le_trans (cut_len _ _).1 z1)
  | false =>
    simp only [Bool.false_eq_true, if_false] at hb
    obtain ⟨rfl, rfl, hb⟩ := hb
    cases d <;> simp only [sltD, reduceCtorEq] at hb
    · rename_i z
      obtain ⟨rfl, zs⟩ := kx.str
      cases hb
      refine sl_str pins s σ H _ v vl vu _ _ sl Q I rx hs pl pu ⟨z, rfl, big_line zs, ?_⟩
      rw [cutT_str]
      refine p.val l (.str _ (Nat.le_trans ?_ zs))
      have e := (cut_len z.cps.toList i).2
      simpa [Str.length] using e
    · cases hb
      obtain ⟨a, vs, rfl, h1, r1, z1⟩ := kx.list l
      refine sl_list pins s σ H _ v vl vu _ _ sl Q I rx hs pl pu ⟨a, vs, rfl, h1, ?_⟩
      rw [cutT_eq]
      exact p.lst l (r1.cutT i) (Nat.le_trans (cut_len _ _).2 z1)
    · cases hb
      obtain ⟨a, vs, rfl, h1, r1, z1⟩ := kx.tuple l
      refine sl_tupA pins s σ H _ v vl vu _ _ sl Q I rx hs pl pu ⟨a, vs, rfl, l.st h1, fun hw => ?_, fun _ => ?_⟩
      · have e : Ev.cutT vs i = vs := by
          rw [← cutT_eq]
          unfold cutV
          rw [hw.1, hw.2, List.drop_zero, Nat.sub_zero, List.take_length]
        have r2 := r1.cutT i
        rw [e] at r2
        exact p.val l (.tup h1 r2 (Nat.le_trans (cut_len _ _).2 z1))
      · rw [cutT_eq]
        exact p.tup l (r1.cutT i) (Nat.le_trans (cut_len _ _).2 z1)
end
end Ev

set_option Elab.async false
set_option linter.all false
set_option maxRecDepth 100000
set_option maxHeartbeats 1000000
/-! EvE: names and their slots; expressions give what the evaluator gives. -/
namespace Ev
open PySem PySem.Spec PyProof.Rows L2

/-- the drawing list's address -/
def tad (C : Option Nat) (σ : L2.St) (a : Addr) : Prop := ∃ i : Nat, C = some i ∧ σ[i]? = some (some (V.ref a))

structure EnvOk (K : PySem.W.Frag) (C : Option Nat) (ρ : Env) (t : Tape) (G : Hp) (σ : L2.St) (H : Hp) : Prop where
  le : Le G H
  len : ρ.length = σ.length
  val : ∀ (i : Nat) (d : D), ρ[i]? = some (some (R.val d)) → ∃ v, σ[i]? = some (some v) ∧ Rp K G v d
  own : ∀ (i : Nat) (xs : List D), ρ[i]? = some (some (R.own xs)) → ∃ a, σ[i]? = some (some (V.ref a)) ∧ OwnAt K G H a xs
  nob : ∀ (i : Nat) (xs : List D), ρ[i]? ≠ some (some (R.bor xs))
  apart : ∀ (i j : Nat) (xs ys : List D) (a : Addr), i ≠ j → ρ[i]? = some (some (R.own xs)) → ρ[j]? = some (some (R.own ys)) → σ[i]? = some (some (V.ref a)) → σ[j]? ≠ some (some (V.ref a))
  tp1 : t ≠ [] → ∃ a, tad C σ a
  tp2 : ∀ a, tad C σ a → OwnAt K G H a t
  tp3 : ∀ (a : Addr) (j : Nat) (xs : List D), tad C σ a → ρ[j]? = some (some (R.own xs)) → σ[j]? ≠ some (some (V.ref a))

section
variable {K : PySem.W.Frag} {C : Option Nat} {ρ : Env} {t t' : Tape} {G H G' H' : Hp} {σ : L2.St}
theorem EnvOk.ext (e : EnvOk K C ρ t G σ H) (x : Ext no G H G' H') : EnvOk K C ρ t G' σ H' where
  le := x.le
  len := e.len
  val := fun i d h => let ⟨v, h1, h2⟩ := e.val i d h; ⟨v, h1, Rp.mono x.g _ _ h2⟩
  own := fun i xs h => let ⟨a, h1, h2⟩ := e.own i xs h; ⟨a, h1, h2.ext x fun z => z⟩
  nob := e.nob
  apart := e.apart
  tp1 := e.tp1
  tp2 := fun a h => (e.tp2 a h).ext x fun z => z
  tp3 := e.tp3
theorem OwnAt.there {a : Addr} {xs : List D} (o : OwnAt K G H a xs) : H a ≠ none := by
  obtain ⟨_, ⟨vs, h, _⟩, _⟩ := o
  rw [h]
  simp
/-- more of what was made stands for ever -/
theorem EnvOk.rebase {G₀ H₀ : Hp} {t₀ : Tape} {G2 : Hp} (e0 : EnvOk K C ρ t₀ G₀ σ H₀) (e : EnvOk K C ρ t G σ H) (x : Ext (tad C σ) G₀ H₀ G2 H) (l : Le G G2) : EnvOk K C ρ t G2 σ H where
  le := x.le
  len := e.len
  val := fun i d h => let ⟨v, h1, h2⟩ := e.val i d h; ⟨v, h1, Rp.mono l _ _ h2⟩
  own := fun i xs h => by
    obtain ⟨a, h1, ⟨g, ⟨vs, h2, r⟩, z⟩⟩ := e.own i xs h
    obtain ⟨b, k1, k2⟩ := e0.own i xs h
    rw [h1] at k1
    cases k1
    exact ⟨a, h1, x.n a k2.there k2.g, ⟨vs, h2, RpAll.mono l _ _ r⟩, z⟩
  nob := e.nob
  apart := e.apart
  tp1 := e.tp1
  tp2 := fun a h => by
    obtain ⟨g, ⟨vs, h2, r⟩, z⟩ := e.tp2 a h
    have k2 := e0.tp2 a h
    exact ⟨x.n a k2.there k2.g, ⟨vs, h2, RpAll.mono l _ _ r⟩, z⟩
  tp3 := e.tp3
end

/-- what an expression gives: as RR, or a name's own list -/
def RE (K : PySem.W.Frag) (H₀ G H : Hp) (ρ : Env) (σ : L2.St) (v : V) : R → Prop
  | .bor xs => ∃ (a : Addr) (i : Nat), v = .ref a ∧ σ[i]? = some (some (V.ref a)) ∧ ρ[i]? = some (some (R.own xs))
  | r => RR K H₀ G H v r
section
variable {K : PySem.W.Frag} {C : Option Nat} {ρ : Env} {t t1 t2 : Tape} {G H G1 H1 G2 H2 : Hp} {σ : L2.St} {v : V} {r : R}
theorem RE.lk (e0 : EnvOk K C ρ t G σ H) (q : RE K H G1 H1 ρ σ v r) (x2 : Ext (tad C σ) G1 H1 G2 H2) (e2 : EnvOk K C ρ t2 G2 σ H2) : Lk K G2 H2 v r.look := by
  cases r with
  | val d => exact .inl (Rp.mono x2.g _ _ q)
  | own xs =>
    obtain ⟨a, rfl, f, o⟩ := q
    exact .inr ⟨a, xs, rfl, rfl, o.ext x2 fun z => (e0.tp2 a z).there f⟩
  | bor xs =>
    obtain ⟨a, i, rfl, h1, h2⟩ := q
    obtain ⟨b, k1, k2⟩ := e2.own i xs h2
    rw [h1] at k1
    cases k1
    exact .inr ⟨a, xs, rfl, rfl, k2⟩
theorem RE.of (x : Ext (tad C σ) G H G1 H1) (q : RR K H1 G2 H2 v r) : RE K H G2 H2 ρ σ v r := by
  cases r with
  | val d => exact q
  | own xs =>
    obtain ⟨a, rfl, f, o⟩ := q
    exact ⟨a, rfl, x.fresh f, o⟩
  | bor xs => exact q.elim
/-- carried on -/
theorem RE.next (e0 : EnvOk K C ρ t G σ H) (q : RE K H G1 H1 ρ σ v r) (x2 : Ext (tad C σ) G1 H1 G2 H2) : RE K H G2 H2 ρ σ v r := by
  cases r with
  | val d => exact Rp.mono x2.g _ _ q
  | own xs =>
    obtain ⟨a, rfl, f, o⟩ := q
    exact ⟨a, rfl, f, o.ext x2 fun z => (e0.tp2 a z).there f⟩
  | bor xs => exact q
end
def rE (C : Option Nat) (K : PySem.W.Frag) (m : Env → M R) : TE := fun σ H Q => ∃ ρ t G r t', EnvOk K C ρ t G σ H ∧ m ρ t = some (r, t') ∧
  ∀ v G' H', Ext (tad C σ) G H G' H' → EnvOk K C ρ t' G' σ H' → RE K H G' H' ρ σ v r → Q v H'
/-- the tests: the bool -/
def rT (C : Option Nat) (K : PySem.W.Frag) (m : Env → M R) : TT := fun σ H Q => ∃ ρ t G b t', EnvOk K C ρ t G σ H ∧ m ρ t = some (.val (.bool b), t') ∧
  ∀ G' H', Ext (tad C σ) G H G' H' → EnvOk K C ρ t' G' σ H' → Q b H'
inductive REs (K : PySem.W.Frag) (H₀ G H : Hp) (ρ : Env) (σ : L2.St) : List V → List R → Prop
  | nil : REs K H₀ G H ρ σ [] []
  | cons {v : V} {vs : List V} {r : R} {rs : List R} : RE K H₀ G H ρ σ v r → REs K H₀ G H ρ σ vs rs → REs K H₀ G H ρ σ (v :: vs) (r :: rs)
def rA (C : Option Nat) (K : PySem.W.Frag) (m : Env → M (List R)) : TA := fun σ H Q => ∃ ρ t G rs t', EnvOk K C ρ t G σ H ∧ m ρ t = some (rs, t') ∧
  ∀ vs G' H', Ext (tad C σ) G H G' H' → EnvOk K C ρ t' G' σ H' → REs K H G' H' ρ σ vs rs → Q vs H'

theorem _root_.L2.PE.imp {X : Cx} {e : Expr} {t t' : TE} (h : PE X e t) (w : ∀ σ H Q, t' σ H Q → t σ H Q) : PE X e t' := ⟨fun pins s σ H Q I q => h.run pins s σ H Q I (w σ H Q q)⟩
theorem _root_.L2.PT.imp {X : Cx} {e : Expr} {t t' : TT} (h : PT X e t) (w : ∀ σ H Q, t' σ H Q → t σ H Q) : PT X e t' := ⟨fun pins s σ H Q I q => h.run pins s σ H Q I (w σ H Q q)⟩
theorem _root_.L2.PA.imp {X : Cx} {e : List Expr} {t t' : TA} (h : PA X e t) (w : ∀ σ H Q, t' σ H Q → t σ H Q) : PA X e t' := ⟨fun pos pins s σ H Q I q => h.run pos pins s σ H Q I (w σ H Q q)⟩
theorem _root_.L2.PI.imp {X : Cx} {tg e : Expr} {t t' : TI} (h : PI X tg e t) (w : ∀ σ H Q, t' σ H Q → t σ H Q) : PI X tg e t' := ⟨fun pins s σ H Q I q => h.run pins s σ H Q I (w σ H Q q)⟩
theorem _root_.L2.PS.imp {X : Cx} {e : Stmt} {t t' : TS} (h : PS X e t) (w : ∀ D σ H, t' D σ H → t D σ H) : PS X e t' := ⟨fun pins s σ H Q I q => h.run pins s σ H Q I (w Q σ H q)⟩
theorem _root_.L2.PI.or {X : Cx} {tg e : Expr} {t u : TI} (h : PI X tg e t) (h' : PI X tg e u) : PI X tg e (fun σ H R => t σ H R ∨ u σ H R) := ⟨fun pins s σ H R I q => q.elim (h.run pins s σ H R I) (h'.run pins s σ H R I)⟩
theorem _root_.L2.PE.or {X : Cx} {e : Expr} {t u : TE} (h : PE X e t) (h' : PE X e u) : PE X e (fun σ H R => t σ H R ∨ u σ H R) := ⟨fun pins s σ H R I q => q.elim (h.run pins s σ H R I) (h'.run pins s σ H R I)⟩

/-- the steps of the evaluator -/
theorem bnd_some {α β : Type} {m : M α} {f : α → M β} {t t' : Tape} {b : β} (h : bnd m f t = some (b, t')) : ∃ a t1, m t = some (a, t1) ∧ f a t1 = some (b, t') := by
  unfold bnd at h
  split at h
  · rename_i a t1 e
    exact ⟨a, t1, e, h⟩
  · cases h
theorem lift_some' {α : Type} {o : Option α} {t t' : Tape} {a : α} (h : lift o t = some (a, t')) : o = some a ∧ t' = t := by
  cases o with
  | none => cases h
  | some b => cases h; exact ⟨rfl, rfl⟩
theorem ret_some {α : Type} {a b : α} {t t' : Tape} (h : ret a t = some (b, t')) : a = b ∧ t' = t := by cases h; exact ⟨rfl, rfl⟩

section
variable {X : Cx} {C : Option Nat} {a b c : Expr} {ma mb mc : Env → M R} {pos : Pos}
theorem post_of {K : PySem.W.Frag} {ρ : Env} {t2 : Tape} {G H G2 H2 : Hp} {σ : L2.St} {Q : VK} {r : R} (k : ∀ v G' H', Ext (tad C σ) G H G' H' → EnvOk K C ρ t2 G' σ H' → RE K H G' H' ρ σ v r → Q v H')
    (x : Ext (tad C σ) G H G2 H2) (e2 : EnvOk K C ρ t2 G2 σ H2) : Post K G2 H2 r Q := fun v G' H' y q => k v G' H' (x.trans y.pure) (e2.ext y) (RE.of x q)
/-- two operands, then a function of their data -/
theorem two_of {K : PySem.W.Frag} {f : D → D → Option R} : ∀ {σ : L2.St} {H : Hp} {Q : VK}, rE C K (fun ρ => bnd (ma ρ) fun x => bnd (mb ρ) fun y => lift (f x.look y.look)) σ H Q → tOp (rD K f) (rE C K ma) (rE C K mb) σ H Q := by
  rintro σ H Q ⟨ρ, t, G, r, t', e0, h, k⟩
  obtain ⟨x, t1, h1, h⟩ := bnd_some h
  obtain ⟨y, t2, h2, h⟩ := bnd_some h
  obtain ⟨h3, rfl⟩ := lift_some' h
  refine ⟨ρ, t, G, x, t1, e0, h1, fun v1 G1 H1 x1 e1 r1 => ⟨ρ, t1, G1, y, _, e1, h2, fun v2 G2 H2 x2 e2 r2 => ?_⟩⟩
  exact ⟨G2, _, _, r, x2.le, RE.lk e0 r1 x2 e2, RE.lk e1 r2 (Ext.rfl x2.le) e2, h3, post_of k (x1.trans x2) e2⟩
theorem e_bin {o : BOp} (ha : PE X a (rE C X.K ma)) (hb : PE X b (rE C X.K mb)) : PE X (.BinOp a (opOf o) b pos) (rE C X.K fun ρ => bnd (ma ρ) fun x => bnd (mb ρ) fun y => lift (bop o x.look y.look)) :=
  (pe_op (opb o) ha hb).imp fun _ _ _ h => two_of h
theorem e_cmp {o : COp} (hu : X.A.units + 65 < cLine) (ha : PE X a (rE C X.K ma)) (hb : PE X b (rE C X.K mb)) (hm : behindInMarks (cmpOf o) b = false) :
    PE X (.Compare a [cmpOf o] [b] pos) (rE C X.K fun ρ => bnd (ma ρ) fun x => bnd (mb ρ) fun y => lift ((cop o x.look y.look).map fun c => .val (.bool c))) :=
  (pe_cmpR (opc hu o) ha hb hm).imp fun _ _ _ h => two_of (f := bR (cop o)) h
theorem e_sub (hu : X.A.units + 65 < cLine) (ha : PE X a (rE C X.K ma)) (hb : PE X b (rE C X.K mb)) (hs : PlainIx b) :
    PE X (.Subscript a b pos) (rE C X.K fun ρ => bnd (ma ρ) fun x => bnd (mb ρ) fun y => lift ((subD x.look y.look).map .val)) :=
  (pe_ix (ix_D hu) ha hb hs).imp fun _ _ _ h => two_of (f := fun d e => (subD d e).map .val) h
theorem e_slf (ha : PE X a (rE C X.K ma)) (hb : PE X b (rE C X.K mb)) {p2 : Pos} :
    PE X (.Subscript a (.Slice (some b) none none p2) pos) (rE C X.K fun ρ => bnd (ma ρ) fun x => bnd (mb ρ) fun y => lift (slfD x.look y.look)) := by
  refine (pe_slice (sl_D true) ha (po_some hb) po_none).imp ?_
  rintro σ H Q ⟨ρ, t, G, r, t', e0, h, k⟩
  obtain ⟨x, t1, h1, h⟩ := bnd_some h
  obtain ⟨y, t2, h2, h⟩ := bnd_some h
  obtain ⟨h3, rfl⟩ := lift_some' h
  obtain ⟨i, hi⟩ : ∃ i, y.look = .int i := by
    cases q : x.look <;> cases q2 : y.look <;> rw [q, q2] at h3 <;> first | exact ⟨_, rfl⟩ | (simp [slfD] at h3)
  refine ⟨ρ, t, G, x, t1, e0, h1, fun v1 G1 H1 x1 e1 r1 => ⟨ρ, t1, G1, y, _, e1, h2, fun v2 G2 H2 x2 e2 r2 => ?_⟩⟩
  have k2 := RE.lk e1 r2 (Ext.rfl x2.le) e2
  rw [hi] at k2 h3
  exact ⟨i, k2.int, G2, _, i, r, x2.le, RE.lk e0 r1 x2 e2, ⟨rfl, rfl, h3⟩, post_of k (x1.trans x2) e2⟩
theorem e_slt (ha : PE X a (rE C X.K ma)) (hb : PE X b (rE C X.K mb)) {p2 : Pos} :
    PE X (.Subscript a (.Slice none (some b) none p2) pos) (rE C X.K fun ρ => bnd (ma ρ) fun x => bnd (mb ρ) fun y => lift (sltD x.look y.look)) := by
  refine (pe_slice (sl_D false) ha po_none (po_some hb)).imp ?_
  rintro σ H Q ⟨ρ, t, G, r, t', e0, h, k⟩
  obtain ⟨x, t1, h1, h⟩ := bnd_some h
  obtain ⟨y, t2, h2, h⟩ := bnd_some h
  obtain ⟨h3, rfl⟩ := lift_some' h
  obtain ⟨i, hi⟩ : ∃ i, y.look = .int i := by
    cases q : x.look <;> cases q2 : y.look <;> rw [q, q2] at h3 <;> first | exact ⟨_, rfl⟩ | (simp [sltD] at h3)
  refine ⟨ρ, t, G, x, t1, e0, h1, fun v1 G1 H1 x1 e1 r1 => ⟨ρ, t1, G1, y, _, e1, h2, fun v2 G2 H2 x2 e2 r2 => ?_⟩⟩
  have k2 := RE.lk e1 r2 (Ext.rfl x2.le) e2
  rw [hi] at k2 h3
  exact ⟨i, k2.int, G2, _, i, r, x2.le, RE.lk e0 r1 x2 e2, ⟨rfl, rfl, h3⟩, post_of k (x1.trans x2) e2⟩
theorem e_cst {m : Env → M R} {v : V} {d : D} {e : Expr} (h : PE X e (tC v)) (r : ∀ G, Rp X.K G v d) (hm : ∀ ρ, m ρ = ret (.val d)) : PE X e (rE C X.K m) :=
  h.imp fun σ H Q ⟨ρ, t, G, r', t', e0, h, k⟩ => by
    rw [hm] at h
    obtain ⟨rfl, rfl⟩ := ret_some h
    exact k v G H (Ext.rfl e0.le) e0 (r G)
theorem e_var {i : Nat} {x : Str} (hN : X.N[i]? = some x) (hv : Vis X.env.scope x) (hd : (x == ("__debug__" : Str)) = false) (hcd : (x == ("__classdict__" : Str)) = false) : PE X (.Name x pos) (rE C X.K fun ρ => lift (slot ρ i)) := by
  refine (pe_var hN hv hd hcd).imp ?_
  rintro σ H Q ⟨ρ, t, G, r, t', e0, h, k⟩
  obtain ⟨h3, rfl⟩ := lift_some' h
  unfold slot at h3
  split at h3
  · rename_i d e
    cases h3
    obtain ⟨v, h1, h2⟩ := e0.val i d e
    exact ⟨v, h1, k v G H (Ext.rfl e0.le) e0 h2⟩
  · rename_i xs e
    cases h3
    obtain ⟨a, h1, h2⟩ := e0.own i xs e
    exact ⟨.ref a, h1, k (.ref a) G H (Ext.rfl e0.le) e0 ⟨a, i, rfl, h1, e⟩⟩
  · cases h3
theorem e_neg (ha : PE X a (rE C X.K ma)) : PE X (.UnaryOp .USub a pos) (rE C X.K fun ρ => bnd (ma ρ) fun x => lift (match x with | .val (.int i) => some (.val (.int (-i))) | _ => none)) := by
  refine (pe_un un_neg ha).imp ?_
  rintro σ H Q ⟨ρ, t, G, r, t', e0, h, k⟩
  obtain ⟨x, t1, h1, h⟩ := bnd_some h
  obtain ⟨h3, rfl⟩ := lift_some' h
  refine ⟨ρ, t, G, x, _, e0, h1, fun v1 G1 H1 x1 e1 r1 => ?_⟩
  split at h3
  · cases h3
    cases r1
    exact ⟨_, rfl, k _ _ _ x1 e1 (.int _)⟩
  · cases h3
theorem bool_of {K : PySem.W.Frag} {H₀ G H : Hp} {ρ : Env} {σ : L2.St} {v : V} {r : R} {c : Bool} (q : RE K H₀ G H ρ σ v r) (h : isTrueD r = some c) : v = .bl c := by
  unfold isTrueD at h
  split at h
  · cases h
    cases q
    rfl
  · cases h
theorem isTrue_val {r : R} {c : Bool} (h : isTrueD r = some c) : r = .val (.bool c) := by
  unfold isTrueD at h
  split at h
  · cases h
    rfl
  · cases h
theorem e_not (ha : PE X a (rE C X.K ma)) : PE X (.UnaryOp .Not a pos) (rE C X.K fun ρ => bnd (ma ρ) fun x => lift ((isTrueD x).map fun b => .val (.bool (!b)))) := by
  refine (pe_not ha).imp ?_
  rintro σ H Q ⟨ρ, t, G, r, t', e0, h, k⟩
  obtain ⟨x, t1, h1, h⟩ := bnd_some h
  obtain ⟨h3, rfl⟩ := lift_some' h
  refine ⟨ρ, t, G, x, _, e0, h1, fun v1 G1 H1 x1 e1 r1 => ?_⟩
  cases q : isTrueD x with
  | none => rw [q] at h3; cases h3
  | some c =>
    rw [q] at h3
    cases h3
    exact ⟨c, bool_of r1 q, k _ _ _ x1 e1 (.bl _)⟩
theorem t_not (ha : PT X a (rT C X.K ma)) : PT X (.UnaryOp .Not a pos) (rT C X.K fun ρ => bnd (ma ρ) fun x => lift ((isTrueD x).map fun b => .val (.bool (!b)))) := by
  refine (pt_not ha).imp ?_
  rintro σ H Q ⟨ρ, t, G, b, t', e0, h, k⟩
  obtain ⟨x, t1, h1, h⟩ := bnd_some h
  obtain ⟨h3, rfl⟩ := lift_some' h
  cases q : isTrueD x with
  | none => rw [q] at h3; cases h3
  | some c =>
    rw [q] at h3
    cases h3
    have := isTrue_val q
    subst this
    exact ⟨ρ, t, G, c, _, e0, h1, fun G1 H1 x1 e1 => k G1 H1 x1 e1⟩
/-- a step on: what follows from the state behind it -/
theorem rE.step {K : PySem.W.Frag} {m : Env → M R} {ρ : Env} {t1 t' : Tape} {G H G1 H1 : Hp} {σ : L2.St} {Q : VK} {r : R} (x1 : Ext (tad C σ) G H G1 H1) (e1 : EnvOk K C ρ t1 G1 σ H1) (h : m ρ t1 = some (r, t'))
    (k : ∀ v G' H', Ext (tad C σ) G H G' H' → EnvOk K C ρ t' G' σ H' → RE K H G' H' ρ σ v r → Q v H') : rE C K m σ H1 Q :=
  ⟨ρ, t1, G1, r, t', e1, h, fun v G2 H2 x2 e2 q => k v G2 H2 (x1.trans x2) e2 (by
    cases r with
    | val d => exact q
    | own xs => obtain ⟨a, rfl, f, o⟩ := q; exact ⟨a, rfl, x1.fresh f, o⟩
    | bor xs => exact q)⟩
theorem rT.step {K : PySem.W.Frag} {m : Env → M R} {ρ : Env} {t1 t' : Tape} {G H G1 H1 : Hp} {σ : L2.St} {Q : Bool → Hp → Prop} {b : Bool} (x1 : Ext (tad C σ) G H G1 H1) (e1 : EnvOk K C ρ t1 G1 σ H1) (h : m ρ t1 = some (.val (.bool b), t'))
    (k : ∀ G' H', Ext (tad C σ) G H G' H' → EnvOk K C ρ t' G' σ H' → Q b H') : rT C K m σ H1 Q :=
  ⟨ρ, t1, G1, b, t', e1, h, fun G2 H2 x2 e2 => k G2 H2 (x1.trans x2) e2⟩
abbrev mAnd (ma mb : Env → M R) : Env → M R := fun ρ => bnd (ma ρ) fun x => bnd (lift (isTrueD x)) fun c => if c then mb ρ else ret (.val (.bool false))
abbrev mOr (ma mb : Env → M R) : Env → M R := fun ρ => bnd (ma ρ) fun x => bnd (lift (isTrueD x)) fun c => if c then ret (.val (.bool true)) else mb ρ
theorem e_and {rest : List Expr} (ha : PE X a (rE C X.K ma)) (hb : PE X (.BoolOp .And (b :: rest) pos) (rE C X.K mb)) : PE X (.BoolOp .And (a :: b :: rest) pos) (rE C X.K (mAnd ma mb)) := by
  refine (pe_and ha hb).imp ?_
  rintro σ H Q ⟨ρ, t, G, r, t', e0, h, k⟩
  obtain ⟨x, t1, h1, h⟩ := bnd_some h
  obtain ⟨c, t2, h2, h⟩ := bnd_some h
  obtain ⟨h3, rfl⟩ := lift_some' h2
  refine ⟨ρ, t, G, x, _, e0, h1, fun v1 G1 H1 x1 e1 r1 => ⟨c, bool_of r1 h3, ?_⟩⟩
  cases c with
  | true => exact rE.step x1 e1 h k
  | false =>
    obtain ⟨rfl, rfl⟩ := ret_some h
    exact k _ _ _ x1 e1 (.bl _)
theorem e_or {rest : List Expr} (ha : PE X a (rE C X.K ma)) (hb : PE X (.BoolOp .Or (b :: rest) pos) (rE C X.K mb)) : PE X (.BoolOp .Or (a :: b :: rest) pos) (rE C X.K (mOr ma mb)) := by
  refine (pe_or ha hb).imp ?_
  rintro σ H Q ⟨ρ, t, G, r, t', e0, h, k⟩
  obtain ⟨x, t1, h1, h⟩ := bnd_some h
  obtain ⟨c, t2, h2, h⟩ := bnd_some h
  obtain ⟨h3, rfl⟩ := lift_some' h2
  refine ⟨ρ, t, G, x, _, e0, h1, fun v1 G1 H1 x1 e1 r1 => ⟨c, bool_of r1 h3, ?_⟩⟩
  cases c with
  | false => exact rE.step x1 e1 h k
  | true =>
    obtain ⟨rfl, rfl⟩ := ret_some h
    exact k _ _ _ x1 e1 (.bl _)
theorem _root_.L2.PW.imp {X : Cx} {e : Expr} {t t' : TT} (h : PW X e t) (w : ∀ σ H Q, t' σ H Q → t σ H Q) : PW X e t' := ⟨fun wh pins s σ H Q I q => h.run wh pins s σ H Q I (w σ H Q q)⟩
theorem w_and {rest : List Expr} (ha : PT X a (rT C X.K ma)) (hb : PW X (.BoolOp .And (b :: rest) pos) (rT C X.K mb)) : PW X (.BoolOp .And (a :: b :: rest) pos) (rT C X.K (mAnd ma mb)) := by
  refine L2.PW.imp (pw_and ha hb) ?_
  rintro σ H Q ⟨ρ, t, G, r, t', e0, h, k⟩
  obtain ⟨x, t1, h1, h⟩ := bnd_some h
  obtain ⟨c, t2, h2, h⟩ := bnd_some h
  obtain ⟨h3, rfl⟩ := lift_some' h2
  have := isTrue_val h3
  subst this
  refine ⟨ρ, t, G, c, _, e0, h1, fun G1 H1 x1 e1 => ?_⟩
  cases c with
  | true => exact rT.step x1 e1 h k
  | false =>
    obtain ⟨e, rfl⟩ := ret_some h
    cases e
    exact k _ _ x1 e1
theorem w_or {rest : List Expr} (ha : PT X a (rT C X.K ma)) (hb : PW X (.BoolOp .Or (b :: rest) pos) (rT C X.K mb)) : PW X (.BoolOp .Or (a :: b :: rest) pos) (rT C X.K (mOr ma mb)) := by
  refine L2.PW.imp (pw_or ha hb) ?_
  rintro σ H Q ⟨ρ, t, G, r, t', e0, h, k⟩
  obtain ⟨x, t1, h1, h⟩ := bnd_some h
  obtain ⟨c, t2, h2, h⟩ := bnd_some h
  obtain ⟨h3, rfl⟩ := lift_some' h2
  have := isTrue_val h3
  subst this
  refine ⟨ρ, t, G, c, _, e0, h1, fun G1 H1 x1 e1 => ?_⟩
  cases c with
  | false => exact rT.step x1 e1 h k
  | true =>
    obtain ⟨e, rfl⟩ := ret_some h
    cases e
    exact k _ _ x1 e1
/-- any expression as a test -/
theorem t_of (ha : PE X a (rE C X.K ma)) (he : ∀ whole, isTrue a X.env whole = (do let v ← whole; standAt a.pos; holding [v] (truthy v))) : PT X a (rT C X.K ma) :=
  (pt_val ha he).imp fun σ H Q ⟨ρ, t, G, b, t', e0, h, k⟩ => ⟨ρ, t, G, _, t', e0, h, fun v G' H' x e q => ⟨b, by cases q; rfl, k G' H' x e⟩⟩
theorem t_cmp {o : COp} (hu : X.A.units + 65 < cLine) (ha : PE X a (rE C X.K ma)) (hb : PE X b (rE C X.K mb)) (hm : behindInMarks (cmpOf o) b = false) :
    PT X (.Compare a [cmpOf o] [b] pos) (rT C X.K fun ρ => bnd (ma ρ) fun x => bnd (mb ρ) fun y => lift ((cop o x.look y.look).map fun c => .val (.bool c))) :=
  (pt_cmpR (opc hu o) ha hb hm).imp fun σ H Q ⟨ρ, t, G, b, t', e0, h, k⟩ => two_of (f := bR (cop o)) ⟨ρ, t, G, _, t', e0, h, fun v G' H' x e q => ⟨b, by cases q; rfl, k G' H' x e⟩⟩
abbrev mCmp2 (o o' : COp) (ma mb mc : Env → M R) : Env → M R := fun ρ => bnd (ma ρ) fun x => bnd (mb ρ) fun y => bnd (lift (cop o x.look y.look)) fun k =>
      if k then bnd (mc ρ) fun z => lift ((cop o' y.look z.look).map fun c => .val (.bool c)) else ret (.val (.bool false))
theorem chain_of {K : PySem.W.Frag} {o o' : COp} : ∀ {σ : L2.St} {H : Hp} {Q : VK}, rE C K (mCmp2 o o' ma mb mc) σ H Q → tChain (rD K (bR (cop o))) (rD K (bR (cop o'))) (rE C K ma) (rE C K mb) (rE C K mc) σ H Q := by
  rintro σ H Q ⟨ρ, t, G, r, t', e0, h, k⟩
  obtain ⟨x, t1, h1, h⟩ := bnd_some h
  obtain ⟨y, t2, h2, h⟩ := bnd_some h
  obtain ⟨c, t3, h3, h⟩ := bnd_some h
  obtain ⟨h6, rfl⟩ := lift_some' h3
  clear h3
  refine ⟨ρ, t, G, x, t1, e0, h1, fun v1 G1 H1 x1 e1 r1 => ⟨ρ, t1, G1, y, _, e1, h2, fun v2 G2 H2 x2 e2 r2 => ?_⟩⟩
  refine ⟨G2, _, _, .val (.bool c), x2.le, RE.lk e0 r1 x2 e2, RE.lk e1 r2 (Ext.rfl x2.le) e2, by simp only [bR, h6, Option.map_some], fun v3 G3 H3 x3 q3 => ⟨c, by cases q3; rfl, ?_⟩⟩
  have x23 := x2.trans x3.pure
  have e3 := e2.ext x3
  cases c with
  | false =>
    obtain ⟨rfl, rfl⟩ := ret_some h
    exact k _ _ _ (x1.trans x23) e3 (.bl _)
  | true =>
    obtain ⟨z, t4, h4, h⟩ := bnd_some h
    obtain ⟨h5, rfl⟩ := lift_some' h
    refine ⟨ρ, _, G3, z, _, e3, h4, fun v4 G4 H4 x4 e4 r4 => ?_⟩
    exact ⟨G4, _, _, r, x4.le, RE.lk e1 r2 (x3.pure.trans x4) e4, RE.lk e3 r4 (Ext.rfl x4.le) e4, h5, post_of k ((x1.trans x23).trans x4) e4⟩
theorem e_cmp2 {o o' : COp} (hu : X.A.units + 65 < cLine) (ha : PE X a (rE C X.K ma)) (hb : PE X b (rE C X.K mb)) (hc : PE X c (rE C X.K mc)) (hm : lastMarks [cmpOf o, cmpOf o'] [b, c] = false) :
    PE X (.Compare a [cmpOf o, cmpOf o'] [b, c] pos) (rE C X.K (mCmp2 o o' ma mb mc)) :=
  (pe_chain (opc hu o) (opc hu o') ha hb hc hm).imp fun _ _ _ h => chain_of h
theorem t_cmp2 {o o' : COp} (hu : X.A.units + 65 < cLine) (ha : PE X a (rE C X.K ma)) (hb : PE X b (rE C X.K mb)) (hc : PE X c (rE C X.K mc)) (hm : lastMarks [cmpOf o, cmpOf o'] [b, c] = false) :
    PT X (.Compare a [cmpOf o, cmpOf o'] [b, c] pos) (rT C X.K (mCmp2 o o' ma mb mc)) :=
  (pt_chain (opc hu o) (opc hu o') ha hb hc hm).imp fun σ H Q ⟨ρ, t, G, b, t', e0, h, k⟩ => chain_of ⟨ρ, t, G, _, t', e0, h, fun v G' H' x e q => ⟨b, by cases q; rfl, k G' H' x e⟩⟩
abbrev mIte (mc ma mb : Env → M R) : Env → M R := fun ρ => bnd (mc ρ) fun x => bnd (lift (isTrueD x)) fun k => if k then ma ρ else mb ρ
theorem e_ite (hc : PT X c (rT C X.K mc)) (ha : PE X a (rE C X.K ma)) (hb : PE X b (rE C X.K mb)) : PE X (.IfExp c a b pos) (rE C X.K (mIte mc ma mb)) := by
  refine (pe_ifExp hc ha hb).imp ?_
  rintro σ H Q ⟨ρ, t, G, r, t', e0, h, k⟩
  obtain ⟨x, t1, h1, h⟩ := bnd_some h
  obtain ⟨c, t2, h2, h⟩ := bnd_some h
  obtain ⟨h3, rfl⟩ := lift_some' h2
  have := isTrue_val h3
  subst this
  refine ⟨ρ, t, G, c, _, e0, h1, fun G1 H1 x1 e1 => ?_⟩
  cases c with
  | true => exact rE.step x1 e1 h k
  | false => exact rE.step x1 e1 h k
end
end Ev

set_option Elab.async false
set_option linter.all false
set_option maxRecDepth 100000
set_option maxHeartbeats 1000000
/-! EvF: displays, calls of built-ins and of the text's own defs. -/
namespace Ev
open PySem PySem.Spec PyProof.Rows L2
section
variable {X : Cx} {C : Option Nat} {a b c : Expr} {es : List Expr} {ma mb mc : Env → M R} {me : Env → M (List R)} {pos : Pos}
theorem REs.next {K : PySem.W.Frag} {ρ : Env} {t : Tape} {G H G1 H1 G2 H2 : Hp} {σ : L2.St} (e0 : EnvOk K C ρ t G σ H) (x2 : Ext (tad C σ) G1 H1 G2 H2) : ∀ {vs : List V} {rs : List R}, REs K H G1 H1 ρ σ vs rs → REs K H G2 H2 ρ σ vs rs
  | _, _, .nil => .nil
  | _, _, .cons r t => .cons (RE.next e0 r x2) (REs.next e0 x2 t)
theorem REs.from {K : PySem.W.Frag} {ρ : Env} {G H G1 H1 G2 H2 : Hp} {σ : L2.St} (x : Ext (tad C σ) G H G1 H1) : ∀ {vs : List V} {rs : List R}, REs K H1 G2 H2 ρ σ vs rs → REs K H G2 H2 ρ σ vs rs
  | _, _, .nil => .nil
  | _, _, .cons (r := r) q t => .cons (by
    cases r with
    | val d => exact q
    | own xs => obtain ⟨a, rfl, f, o⟩ := q; exact ⟨a, rfl, x.fresh f, o⟩
    | bor xs => exact q) (REs.from x t)
theorem REs.append {K : PySem.W.Frag} {ρ : Env} {G H G1 : Hp} {σ : L2.St} : ∀ {vs : List V} {rs : List R} {ws : List V} {qs : List R}, REs K H G G1 ρ σ vs rs → REs K H G G1 ρ σ ws qs → REs K H G G1 ρ σ (vs ++ ws) (rs ++ qs)
  | _, _, _, _, .nil, h => h
  | _, _, _, _, .cons r t, h => .cons r (REs.append t h)
theorem REs.vals {K : PySem.W.Frag} {ρ : Env} {G H G1 : Hp} {σ : L2.St} : ∀ {vs : List V} {ds : List D}, RpAll K G vs ds → REs K H G G1 ρ σ vs (ds.map R.val)
  | _, _, .nil => .nil
  | _, _, .cons r t => .cons r (REs.vals t)
theorem REs.length {K : PySem.W.Frag} {ρ : Env} {G H G1 : Hp} {σ : L2.St} : ∀ {vs : List V} {rs : List R}, REs K H G G1 ρ σ vs rs → vs.length = rs.length
  | _, _, .nil => rfl
  | _, _, .cons _ t => congrArg Nat.succ (REs.length t)
theorem REs.lk {K : PySem.W.Frag} {ρ : Env} {t t1 : Tape} {G H G1 H1 : Hp} {σ : L2.St} (e0 : EnvOk K C ρ t G σ H) (e1 : EnvOk K C ρ t1 G1 σ H1) (l : Le G1 H1) : ∀ {vs : List V} {rs : List R}, REs K H G1 H1 ρ σ vs rs → LkAll K G1 H1 vs (rs.map R.look)
  | _, _, .nil => .nil
  | _, _, .cons r t => .cons (RE.lk e0 r (Ext.rfl l) e1) (REs.lk e0 e1 l t)
/-- what was made and is not a name's own may stand for ever -/
theorem frz_from {K : PySem.W.Frag} {ta : Addr → Prop} {ρ : Env} {G₀ H₀ G H : Hp} {σ : L2.St} : ∀ {vs : List V} {rs : List R} (G' : Hp), Ext ta G₀ H₀ G' H → Le G G' → REs K H₀ G H ρ σ vs rs → rs.any isBor = false →
    ∃ G2, Ext ta G₀ H₀ G2 H ∧ Le G' G2 ∧ RpAll K G2 vs (rs.map R.look)
  | _, _, G', x, l, .nil, _ => ⟨G', x, Le.rfl, .nil⟩
  | _, _, G', x, l, .cons (r := r) (rs := rs) q t, hb => by
    rw [List.any_cons, Bool.or_eq_false_iff] at hb
    cases r with
    | val d =>
      obtain ⟨G2, x2, l2, h2⟩ := frz_from G' x l t hb.2
      exact ⟨G2, x2, l2, .cons (Rp.mono (l.trans l2) _ _ q) h2⟩
    | own xs =>
      obtain ⟨a, rfl, f, ⟨g, ⟨vs, h, rp⟩, z⟩⟩ := q
      by_cases hg : G' a = none
      · obtain ⟨G2, x2, l2, h2⟩ := frz_from (upd G' a (.lst vs)) (x.frz f hg h) (l.trans (Le.upd hg)) t hb.2
        have e : G2 a = some (.lst vs) := l2 _ _ upd_same
        exact ⟨G2, x2, (Le.upd hg).trans l2, .cons (.lst (.inl (.inl e)) (RpAll.mono ((l.trans (Le.upd hg)).trans l2) _ _ rp) z) h2⟩
      · obtain ⟨G2, x2, l2, h2⟩ := frz_from G' x l t hb.2
        obtain ⟨o, ho⟩ := Option.ne_none_iff_exists'.mp hg
        have e := x.le _ _ ho
        rw [h] at e
        cases e
        exact ⟨G2, x2, l2, .cons (.lst (.inl (.inl (l2 _ _ ho))) (RpAll.mono (l.trans l2) _ _ rp) z) h2⟩
    | bor xs => cases hb.1
theorem frz_own {K : PySem.W.Frag} {G H : Hp} {a : Addr} {xs : List D} (o : OwnAt K G H a xs) (G' : Hp) (l : Le G G') (lh : Le G' H) : ∃ G2, Le G' G2 ∧ Le G2 H ∧ Rp K G2 (.ref a) (.list xs) := by
  obtain ⟨g, ⟨vs, h, rp⟩, z⟩ := o
  by_cases hg : G' a = none
  · exact ⟨upd G' a (.lst vs), Le.upd hg, lh.upd2 h, .lst (.inl (.inl upd_same)) (RpAll.mono (l.trans (Le.upd hg)) _ _ rp) z⟩
  · obtain ⟨u, hu⟩ := Option.ne_none_iff_exists'.mp hg
    have e := lh _ _ hu
    rw [h] at e
    cases e
    exact ⟨G', Le.rfl, lh, .lst (.inl (.inl hu)) (RpAll.mono l _ _ rp) z⟩
/-- .. for the time of a call, names' own lists too -/
theorem frz_tmp {K : PySem.W.Frag} {G H : Hp} : ∀ {vs : List V} {ds : List D} (G' : Hp), Le G G' → Le G' H → LkAll K G H vs ds → ∃ G2, Le G' G2 ∧ Le G2 H ∧ RpAll K G2 vs ds
  | _, _, G', l, lh, .nil => ⟨G', Le.rfl, lh, .nil⟩
  | _, _, G', l, lh, .cons q t => by
    rcases q with q | ⟨a, xs, rfl, rfl, o⟩
    · obtain ⟨G2, l2, lh2, h2⟩ := frz_tmp G' l lh t
      exact ⟨G2, l2, lh2, .cons (Rp.mono (l.trans l2) _ _ q) h2⟩
    · obtain ⟨G1, l1, lh1, r1⟩ := frz_own o G' l lh
      obtain ⟨G2, l2, lh2, h2⟩ := frz_tmp G1 (l.trans l1) lh1 t
      exact ⟨G2, l1.trans l2, lh2, .cons (Rp.mono l2 _ _ r1) h2⟩
theorem fixes_spec : ∀ {rs : List R} {ds : List D}, fixes rs = some ds → rs.any isBor = false ∧ ds = rs.map R.look
  | [], ds, h => by cases h; exact ⟨rfl, rfl⟩
  | r :: rs, ds, h => by
    simp only [fixes] at h
    split at h
    · rename_i d es h1 h2
      cases h
      obtain ⟨k1, k2⟩ := fixes_spec h2
      cases r with
      | val e => cases h1; exact ⟨by simpa [isBor] using k1, by rw [k2]; rfl⟩
      | own xs => cases h1; exact ⟨by simpa [isBor] using k1, by rw [k2]; rfl⟩
      | bor xs => cases h1
    · cases h
theorem notStar_each {e : Expr} {env : PySem.Env} (h : ∀ x p, e ≠ .Starred x p) : starEach (e :: es) env = (false, eval e env) :: starEach es env := by
  cases e with
  | Starred x p => exact absurd rfl (h x p)
  | _ => rfl
theorem a_nil : PA X [] (rA C X.K fun _ => ret []) := pa_nil.imp fun σ H Q ⟨ρ, t, G, rs, t', e0, h, k⟩ => by
  obtain ⟨rfl, rfl⟩ := ret_some h
  exact k [] G H (Ext.rfl e0.le) e0 .nil
theorem a_cons (ha : PE X a (rE C X.K ma)) (hr : PA X es (rA C X.K me)) (hn : ∀ x p, a ≠ .Starred x p) : PA X (a :: es) (rA C X.K fun ρ => bnd (ma ρ) fun x => bnd (me ρ) fun xs => ret (x :: xs)) := by
  refine (pa_cons ha hr (notStar_each hn)).imp ?_
  rintro σ H Q ⟨ρ, t, G, rs, t', e0, h, k⟩
  obtain ⟨x, t1, h1, h⟩ := bnd_some h
  obtain ⟨xs, t2, h2, h⟩ := bnd_some h
  obtain ⟨rfl, rfl⟩ := ret_some h
  refine ⟨ρ, t, G, x, t1, e0, h1, fun v1 G1 H1 x1 e1 r1 => ⟨ρ, t1, G1, xs, _, e1, h2, fun vs G2 H2 x2 e2 r2 => ?_⟩⟩
  exact k _ G2 H2 (x1.trans x2) e2 (.cons (RE.next e0 r1 x2) (REs.from x1 r2))
theorem seq_of {K : PySem.W.Frag} {G H : Hp} {v : V} {d : D} {xs : List D} (l : Le G H) (k : Lk K G H v d) (h : items d = some xs) : ∃ p vs, v = .ref p ∧ (SqT K H p vs ∨ SqL K H p vs) ∧ RpAll K G vs xs := by
  cases d <;> simp only [items, reduceCtorEq] at h
  · cases h
    obtain ⟨a, vs, rfl, h1, r1, _⟩ := k.list l
    exact ⟨a, vs, rfl, .inr h1, r1⟩
  · cases h
    obtain ⟨a, vs, rfl, h1, r1, _⟩ := k.tuple l
    exact ⟨a, vs, rfl, .inl (l.st h1), r1⟩
theorem a_star {p : Pos} (ha : PE X a (rE C X.K ma)) (hr : PA X es (rA C X.K me)) : PA X (.Starred a p :: es) (rA C X.K fun ρ => bnd (ma ρ) fun x => bnd (lift (items x.look)) fun ds => bnd (me ρ) fun xs => ret (ds.map .val ++ xs)) := by
  refine (StX.pa_star ha hr).imp ?_
  rintro σ H Q ⟨ρ, t, G, rs, t', e0, h, k⟩
  obtain ⟨x, t1, h1, h⟩ := bnd_some h
  obtain ⟨ds, t2, h2, hB⟩ := bnd_some h
  obtain ⟨h3, rfl⟩ := lift_some' h2
  obtain ⟨xs, t4, h4, hC⟩ := bnd_some hB
  obtain ⟨rfl, rfl⟩ := ret_some hC
  refine ⟨ρ, t, G, x, _, e0, h1, fun v1 G1 H1 x1 e1 r1 => ?_⟩
  obtain ⟨p, vs, rfl, hq, rp⟩ := seq_of x1.le (RE.lk e0 r1 (Ext.rfl x1.le) e1) h3
  refine ⟨p, vs, rfl, hq, ρ, _, G1, xs, _, e1, h4, fun ws G2 H2 x2 e2 r2 => ?_⟩
  exact k _ G2 H2 (x1.trans x2) e2 ((REs.vals (RpAll.mono x2.g _ _ rp)).append (REs.from x1 r2))
theorem e_tup {k0 : Nat} (ha : PA X es (rA C X.K me)) : PE X (.Tuple es k0 pos) (rE C X.K fun ρ => bnd (me ρ) fun rs => lift ((fixes rs).bind fun ds => if ds.length ≤ big then some (.val (.tuple ds)) else none)) := by
  refine (pe_tup ha).imp ?_
  rintro σ H Q ⟨ρ, t, G, r, t', e0, h, k⟩
  obtain ⟨rs, t1, h1, h⟩ := bnd_some h
  obtain ⟨h2, rfl⟩ := lift_some' h
  cases hf : fixes rs with
  | none => rw [hf] at h2; cases h2
  | some ds =>
    rw [hf] at h2
    simp only [Option.bind_some] at h2
    split at h2
    · rename_i hz
      cases h2
      obtain ⟨nb, rfl⟩ := fixes_spec hf
      refine ⟨ρ, t, G, rs, _, e0, h1, fun vs G1 H1 x1 e1 r1 => ?_⟩
      obtain ⟨G2, x2, l2, rp⟩ := frz_from G1 x1 Le.rfl r1 nb
      have hl := rp.length
      refine ⟨by rw [hl]; exact big_line hz, ?_⟩
      exact (post_of k x2 (e0.rebase e1 x2 l2)).tup x2.le rp hz
    · cases h2
theorem e_lst (ha : PA X es (rA C X.K me)) : PE X (.List es pos) (rE C X.K fun ρ => bnd (me ρ) fun rs => lift ((fixes rs).bind fun ds => if ds.length ≤ big then some (.own ds) else none)) := by
  refine (pe_lst ha).imp ?_
  rintro σ H Q ⟨ρ, t, G, r, t', e0, h, k⟩
  obtain ⟨rs, t1, h1, h⟩ := bnd_some h
  obtain ⟨h2, rfl⟩ := lift_some' h
  cases hf : fixes rs with
  | none => rw [hf] at h2; cases h2
  | some ds =>
    rw [hf] at h2
    simp only [Option.bind_some] at h2
    split at h2
    · rename_i hz
      cases h2
      obtain ⟨nb, rfl⟩ := fixes_spec hf
      refine ⟨ρ, t, G, rs, _, e0, h1, fun vs G1 H1 x1 e1 r1 => ?_⟩
      obtain ⟨G2, x2, l2, rp⟩ := frz_from G1 x1 Le.rfl r1 nb
      have hl := rp.length
      refine ⟨by rw [hl]; exact big_line hz, ?_⟩
      exact (post_of k x2 (e0.rebase e1 x2 l2)).lst x2.le rp hz
    · cases h2
/-! ### built-ins -/
theorem bi_of {K : PySem.W.Frag} {f : List D → Option R} : ∀ {σ : L2.St} {H : Hp} {Q : VK}, rE C K (fun ρ => bnd (me ρ) fun rs => lift (f (rs.map R.look))) σ H Q → tCB (rL K f) (rA C K me) σ H Q := by
  rintro σ H Q ⟨ρ, t, G, r, t', e0, h, k⟩
  obtain ⟨rs, t1, h1, h⟩ := bnd_some h
  obtain ⟨h2, rfl⟩ := lift_some' h
  exact ⟨ρ, t, G, rs, _, e0, h1, fun vs G1 H1 x1 e1 r1 => ⟨G1, _, r, x1.le, REs.lk e0 e1 x1.le r1, h2, post_of k x1 e1⟩⟩
theorem no_star_any {env : PySem.Env} (h : ∀ x ∈ es, ∀ y p, x ≠ .Starred y p) : (backTo pos (starEach es env)).any (·.1) = false := by
  induction es with
  | nil => rfl
  | cons e r ih =>
    rw [notStar_each (h e List.mem_cons_self)]
    show (false || (backTo pos (starEach r env)).any (·.1)) = false
    rw [Bool.false_or]
    exact ih fun x hx => h x (List.mem_cons_of_mem _ hx)
theorem e_biB {id : String} {x : Str} {p : Pos} {f : List D → Option R} (hc : CallR X (.builtin id) (rL X.K f)) (hg : Gl X x) (hm : X.mg x = none) (hv : bootBuiltins x = some (.builtin id)) (ha : PA X (a :: es) (rA C X.K me)) (hn : x ≠ "__name__") (hdb : (x == ("__debug__" : Str)) = false)
    (ns : ∀ e ∈ a :: es, ∀ y p, e ≠ .Starred y p) : PE X (.Call (.Name x p) (a :: es) [] pos) (rE C X.K fun ρ => bnd (me ρ) fun rs => lift (f (rs.map R.look))) :=
  (pe_callB hc hg hm hv ha hn hdb (notStar_each (ns a List.mem_cons_self)) (no_star_any fun e he => ns e (List.mem_cons_of_mem _ he))).imp fun _ _ _ h => bi_of h
theorem e_biT {T : String} {x : Str} {p : Pos} {f : List D → Option R} (hc : CallR X (.type T) (rL X.K f)) (hg : Gl X x) (hm : X.mg x = none) (hv : bootBuiltins x = some (.type T)) (ha : PA X (a :: es) (rA C X.K me)) (hn : x ≠ "__name__") (hdb : (x == ("__debug__" : Str)) = false)
    (ns : ∀ e ∈ a :: es, ∀ y p, e ≠ .Starred y p) : PE X (.Call (.Name x p) (a :: es) [] pos) (rE C X.K fun ρ => bnd (me ρ) fun rs => lift (f (rs.map R.look))) :=
  (pe_callTy hc hg hm hv ha hn hdb (notStar_each (ns a List.mem_cons_self)) (no_star_any fun e he => ns e (List.mem_cons_of_mem _ he))).imp fun _ _ _ h => bi_of h
/-! ### defs of the text -/
/-- what a def promises: the evaluator's answer -/
def spEv (K : PySem.W.Frag) (Φ : Call) (f : Str) (np : Nat) : Bool → Sp
  | false => fun vs H Q _ => ∃ G ds r t', vs.length = np ∧ Le G H ∧ RpAll K G vs ds ∧ Φ f ds [] = some (r, t') ∧ Post K G H r Q
  | true => fun vs H Q _ => ∃ G ds t r t' ta vs', vs.length = np ∧ vs = .ref ta :: vs' ∧ Le G H ∧ RpAll K G vs' ds ∧ OwnAt K G H ta t ∧ t ≠ [] ∧ Φ f ds t = some (r, t') ∧
      ∀ v G' H', Ext (fun a => a = ta) G H G' H' → OwnAt K G' H' ta t' → RR K H G' H' v r → Q v H'
theorem e_call {k np : Nat} {fa : Addr} {fd : FuncData} {ps : List Str} {x : Str} {p : Pos} {Φ : Call} (F : FnOk X.prog X.w X.K X.mg X.base CX0 k fa fd ps (spEv X.K Φ x np false)) (hr : Room k X.A) (hg : Gl X x) (hm : X.mg x = some (.ref fa)) (hk : PySem.W.keepIn X.K (.ref fa) = true) (hb : Binds X.K fd ps [])
    (ha : PA X (a :: es) (rA C X.K me)) (hdb : (x == ("__debug__" : Str)) = false) (ns : ∀ e ∈ a :: es, ∀ y p, e ≠ .Starred y p) (hl : (a :: es).length = np) (hrl : ∀ ρ t rs t', me ρ t = some (rs, t') → rs.length = (a :: es).length) :
    PE X (.Call (.Name x p) (a :: es) [] pos) (rE C X.K fun ρ => bnd (me ρ) fun rs => fun t => match Φ x (rs.map R.look) [] with
      | some (r, _) => (lift (afterCall rs r) : M R) t
      | none => none) := by
  refine (pe_call (E := fun _ _ _ => False) F hr hg hm hk hb .nil pass0 ha hdb (notStar_each (ns a List.mem_cons_self)) (no_star_any fun e he => ns e (List.mem_cons_of_mem _ he))).imp ?_
  rintro σ H Q ⟨ρ, t, G, r, t', e0, h, k⟩
  obtain ⟨rs, t1, h1, h⟩ := bnd_some h
  split at h
  · rename_i r0 tx hc
    obtain ⟨h2, rfl⟩ := lift_some' h
    refine ⟨ρ, t, G, rs, _, e0, h1, fun vs G1 H1 x1 e1 r1 => ?_⟩
    show spEv X.K Φ x np false (vs ++ []) H1 Q _
    rw [List.append_nil]
    have hlen : vs.length = np := by rw [r1.length, hrl _ _ _ _ h1, hl]
    unfold afterCall at h2
    cases nb : rs.any isBor with
    | false =>
      rw [nb] at h2
      simp only [Bool.false_eq_true, if_false] at h2
      cases h2
      obtain ⟨G2, x2, l2, rp⟩ := frz_from G1 x1 Le.rfl r1 nb
      exact ⟨G2, _, _, tx, hlen, x2.le, rp, hc, post_of k x2 (e0.rebase e1 x2 l2)⟩
    | true =>
      rw [nb] at h2
      simp only [if_true] at h2
      cases r0 with
      | val d =>
        simp only at h2
        split at h2
        · rename_i hat
          cases h2
          obtain ⟨G2, l2, lh2, rp⟩ := frz_tmp G1 Le.rfl x1.le (REs.lk e0 e1 x1.le r1)
          refine ⟨G2, _, _, tx, hlen, lh2, rp, hc, fun v G' H' y q => ?_⟩
          have y1 : Ext no G1 H1 G1 H' := ⟨Le.rfl, y.h, y.t, fun _ _ z => z, l2.trans (y.g.trans y.le)⟩
          refine k v G1 H' (x1.trans y1.pure) (e1.ext y1) ?_
          cases d <;> simp only [isAtom, Bool.false_eq_true] at hat
          · cases q; exact .non
          · cases q; exact .bl _
          · cases q; exact .int _
          · cases q with | str _ z => exact .str _ z
        · cases h2
      | own xs => cases h2
      | bor xs => cases h2
  · cases h
end
end Ev

set_option Elab.async false
set_option linter.all false
set_option maxRecDepth 100000
set_option maxHeartbeats 1000000
/-! EvG: calls that hand on the drawing list; what is walked; targets. -/
namespace Ev
open PySem PySem.Spec PyProof.Rows L2
theorem tad_one {C : Option Nat} {σ : L2.St} {a b : Addr} (h : tad C σ a) (h' : tad C σ b) : a = b := by
  obtain ⟨i, e, q⟩ := h
  obtain ⟨j, e', q'⟩ := h'
  rw [e] at e'
  cases e'
  rw [q] at q'
  cases q'
  rfl
theorem EnvOk.extT {K : PySem.W.Frag} {C : Option Nat} {ρ : Env} {t t' : Tape} {G H G' H' : Hp} {σ : L2.St} {ta : Addr} (e : EnvOk K C ρ t G σ H) (h : tad C σ ta) (x : Ext (fun a => a = ta) G H G' H') (o : OwnAt K G' H' ta t') : EnvOk K C ρ t' G' σ H' where
  le := x.le
  len := e.len
  val := fun i d h => let ⟨v, h1, h2⟩ := e.val i d h; ⟨v, h1, Rp.mono x.g _ _ h2⟩
  own := fun i xs hi => let ⟨a, h1, h2⟩ := e.own i xs hi; ⟨a, h1, h2.ext x fun z => e.tp3 ta i xs h hi (by
    have z : a = ta := z
    rw [← z]
    exact h1)⟩
  nob := e.nob
  apart := e.apart
  tp1 := fun _ => ⟨ta, h⟩
  tp2 := fun a ha => by
    rw [tad_one ha h]
    exact o
  tp3 := e.tp3
section
variable {X : Cx} {C : Option Nat} {a b c : Expr} {es : List Expr} {ma mb mc : Env → M R} {me : Env → M (List R)} {pos : Pos}
theorem needT_some {α : Type} {m : M α} {t t' : Tape} {a : α} (h : needT m t = some (a, t')) : t ≠ [] ∧ m t = some (a, t') := by
  cases t with
  | nil => cases h
  | cons x r => exact ⟨by simp, h⟩
theorem e_callT {k np i : Nat} {fa : Addr} {fd : FuncData} {ps : List Str} {x y : Str} {p p2 : Pos} {Φ : Call} (F : FnOk X.prog X.w X.K X.mg X.base CX0 k fa fd ps (spEv X.K Φ x np true)) (hr : Room k X.A) (hg : Gl X x) (hm : X.mg x = some (.ref fa)) (hk : PySem.W.keepIn X.K (.ref fa) = true) (hb : Binds X.K fd ps [])
    (ha : PA X es (rA C X.K me)) (hdb : (x == ("__debug__" : Str)) = false) (ns : ∀ e ∈ es, ∀ y p, e ≠ .Starred y p) (hl : es.length + 1 = np) (hrl : ∀ ρ t rs t', me ρ t = some (rs, t') → rs.length = es.length)
    (hC : C = some i) (hN : X.N[i]? = some y) (hv : Vis X.env.scope y) (hd : (y == ("__debug__" : Str)) = false) (hcd : (y == ("__classdict__" : Str)) = false) :
    PE X (.Call (.Name x p) (.Name y p2 :: es) [] pos) (rE C X.K fun ρ => needT (bnd (me ρ) fun rs => bnd (needT (Φ x (rs.map R.look))) fun r => lift (if rs.any isBor then none else some r))) := by
  have hn : ∀ z q, Expr.Name y p2 ≠ .Starred z q := fun _ _ z => by cases z
  refine (pe_call (E := fun _ _ _ => False) F hr hg hm hk hb .nil pass0 (pa_cons (pe_var hN hv hd hcd) ha (notStar_each hn)) hdb (notStar_each hn) (no_star_any ns)).imp ?_
  rintro σ H Q ⟨ρ, t, G, r, t', e0, h, k⟩
  obtain ⟨ht, hA⟩ := needT_some h
  obtain ⟨rs, t1, h1, hB⟩ := bnd_some hA
  obtain ⟨r0, t2, h2, hD⟩ := bnd_some hB
  obtain ⟨ht1, h3⟩ := needT_some h2
  obtain ⟨h4, rfl⟩ := lift_some' hD
  obtain ⟨ta, hta⟩ := e0.tp1 ht
  have hslot : σ[i]? = some (some (V.ref ta)) := by
    obtain ⟨j, e, q⟩ := hta
    rw [hC] at e
    cases e
    exact q
  refine ⟨.ref ta, hslot, ρ, t, G, rs, t1, e0, h1, fun vs G1 H1 x1 e1 r1 => ?_⟩
  show spEv X.K Φ x np true ((.ref ta :: vs) ++ []) H1 Q _
  rw [List.append_nil]
  cases nb : rs.any isBor with
  | true => rw [nb] at h4; cases h4
  | false =>
    rw [nb] at h4
    simp only [Bool.false_eq_true, if_false] at h4
    cases h4
    obtain ⟨G2, x2, l2, rp⟩ := frz_from G1 x1 Le.rfl r1 nb
    have e2 := e0.rebase e1 x2 l2
    refine ⟨G2, _, t1, r, t', ta, vs, by rw [List.length_cons, r1.length, hrl _ _ _ _ h1, hl], rfl, x2.le, rp, e2.tp2 ta hta, ht1, h3, fun v G' H' y o q => ?_⟩
    exact k v G' H' (x2.trans (y.weak fun a z => by rw [show a = ta from z]; exact hta)) (e2.extT hta y o) (RE.of x2 q)
theorem e_tget {i : Nat} {y : Str} {p2 : Pos} (hu : X.A.units + 65 < cLine) (hC : C = some i) (hN : X.N[i]? = some y) (hv : Vis X.env.scope y) (hd : (y == ("__debug__" : Str)) = false) (hcd : (y == ("__classdict__" : Str)) = false)
    (hb : PE X b (rE C X.K mb)) (hs : PlainIx b) : PE X (.Subscript (.Name y p2) b pos) (rE C X.K fun ρ => needT (bnd (mb ρ) fun y => fun t => (lift ((subD (.list t) y.look).map .val) : M R) t)) := by
  refine (pe_ix (ix_D hu) (pe_var hN hv hd hcd) hb hs).imp ?_
  rintro σ H Q ⟨ρ, t, G, r, t', e0, h, k⟩
  obtain ⟨ht, hA⟩ := needT_some h
  obtain ⟨y, t1, h1, hB⟩ := bnd_some hA
  obtain ⟨h2, rfl⟩ := lift_some' hB
  obtain ⟨ta, hta⟩ := e0.tp1 ht
  have hslot : σ[i]? = some (some (V.ref ta)) := by
    obtain ⟨j, e, q⟩ := hta
    rw [hC] at e
    cases e
    exact q
  refine ⟨.ref ta, hslot, ρ, t, G, y, t', e0, h1, fun v2 G2 H2 x2 e2 r2 => ?_⟩
  exact ⟨G2, _, _, r, x2.le, .inr ⟨ta, _, rfl, rfl, e2.tp2 ta hta⟩, RE.lk e0 r2 (Ext.rfl x2.le) e2, h2, post_of k x2 e2⟩
/-! ### what is walked -/
/-- J walks ds, in every heap that P tells -/
def Wk (K : PySem.W.Frag) (P : Hp → Hp → Prop) (J : It) (ds : List D) : Prop := ∀ (i : Nat) (G H : Hp), P G H →
  (∀ d, ds[i]? = some d → J.go i H ∧ ∀ x H', J.yld i H x H' → ∃ G', Ext no G H G' H' ∧ Rp K G' x d) ∧ (ds.length ≤ i → J.stop i H)
/-- the heaps that a loop meets: strict: what stands for ever stands; else nothing but the drawing list changes -/
def Met (st : Bool) (ta : Addr → Prop) (G₁ H₁ G H : Hp) : Prop := if st then Le G₁ G ∧ Le G H else Ext ta G₁ H₁ G H
theorem Met.le {st : Bool} {ta : Addr → Prop} {G₁ H₁ G H : Hp} (m : Met st ta G₁ H₁ G H) : Le G₁ G ∧ Le G H := by
  cases st with
  | true => exact m
  | false => exact ⟨Ext.g m, Ext.le m⟩
theorem Met.of {st : Bool} {ta : Addr → Prop} {G₁ H₁ G H : Hp} (x : Ext ta G₁ H₁ G H) : Met st ta G₁ H₁ G H := by
  cases st with
  | true => exact ⟨x.g, x.le⟩
  | false => exact x
def rI (C : Option Nat) (K : PySem.W.Frag) (st : Bool) (m : Env → M (List D)) : TI := fun σ H Q => ∃ ρ t G ds t', EnvOk K C ρ t G σ H ∧ m ρ t = some (ds, t') ∧
  ∀ J G' H', Ext (tad C σ) G H G' H' → EnvOk K C ρ t' G' σ H' → Wk K (Met st (tad C σ) G' H') J ds → ds.length ≤ big → Q J H'
/-- a list or tuple that is walked, as it will be met -/
def Stands (K : PySem.W.Frag) (P : Hp → Hp → Prop) (a : Addr) (tup : Bool) (xs : List D) : Prop := ∀ G H, P G H → ∃ vs, (if tup then SqT K H a vs else SqL K H a vs) ∧ RpAll K G vs xs ∧ Le G H
section
variable {K : PySem.W.Frag} {P : Hp → Hp → Prop} {p q : Addr} {xs ys : List D}
theorem wk_list (s : Stands K P p false xs) : Wk K P (Itl K p) xs := fun i G H hP => by
  obtain ⟨vs, h, r, l⟩ := s G H hP
  have h : SqL K H p vs := h
  refine ⟨fun d e => ?_, fun e => ⟨vs, h, by rw [r.length]; exact e⟩⟩
  obtain ⟨v, e1, r1⟩ := r.get e
  refine ⟨⟨vs, v, h, e1⟩, fun x H' y => ?_⟩
  obtain ⟨rfl, y⟩ := y
  have := y vs h
  rw [e1] at this
  cases this
  exact ⟨G, Ext.rfl l, r1⟩
theorem wk_tup (s : Stands K P p true xs) : Wk K P (Itt K p) xs := fun i G H hP => by
  obtain ⟨vs, h, r, l⟩ := s G H hP
  have h : SqT K H p vs := h
  refine ⟨fun d e => ?_, fun e => ⟨vs, h, by rw [r.length]; exact e⟩⟩
  obtain ⟨v, e1, r1⟩ := r.get e
  refine ⟨⟨vs, v, h, e1⟩, fun x H' y => ?_⟩
  obtain ⟨rfl, y⟩ := y
  have := y vs h
  rw [e1] at this
  cases this
  exact ⟨G, Ext.rfl l, r1⟩
theorem wk_str {x : Str} (l : ∀ G H, P G H → Le G H) : Wk K P (Its x) (x.cps.toList.map fun c => .str ⟨#[c]⟩) := fun i G H hP => by
  refine ⟨fun d e => ?_, fun e => show x.cps.size ≤ i by simpa using e⟩
  rw [List.getElem?_map] at e
  cases hc : x.cps.toList[i]? with
  | none => rw [hc] at e; cases e
  | some c =>
    rw [hc] at e
    cases e
    have hc' : x.cps[i]? = some c := by simpa using hc
    obtain ⟨hi, _⟩ := Array.getElem?_eq_some_iff.mp hc'
    refine ⟨hi, fun v H' y => ?_⟩
    obtain ⟨rfl, c', e1, rfl⟩ := y
    rw [hc'] at e1
    cases e1
    exact ⟨G, Ext.rfl (l _ _ hP), .str _ (by show (1 : Nat) ≤ big; decide)⟩
theorem wk_rng {n : Nat} (l : ∀ G H, P G H → Le G H) : Wk K P (Itr 0 n) ((List.range n).map fun i => .int (i : Nat)) := fun i G H hP => by
  refine ⟨fun d e => ?_, fun e => show n ≤ i by simpa using e⟩
  rw [List.getElem?_map] at e
  by_cases hi : i < n
  · rw [List.getElem?_range hi] at e
    cases e
    refine ⟨hi, fun v H' y => ?_⟩
    obtain ⟨rfl, rfl⟩ := y
    refine ⟨G, Ext.rfl (l _ _ hP), ?_⟩
    rw [Int.zero_add]
    exact .int _
  · rw [List.getElem?_eq_none (by simpa using hi)] at e
    cases e
theorem new_pair {G H : Hp} {T : Addr} {x y : V} {d e : D} (l : Le G H) (hT : H T = none) (r1 : Rp K G x d) (r2 : Rp K G y e) : ∃ G', Ext no G H G' (upd H T (.tup [x, y])) ∧ Rp K G' (.ref T) (.tuple [d, e]) :=
  ⟨upd G T (.tup [x, y]), Ext.newG l hT, .tup (.of upd_same) (.cons (Rp.mono (Le.upd (l.none hT)) _ _ r1) (.cons (Rp.mono (Le.upd (l.none hT)) _ _ r2) .nil)) (by show (2 : Nat) ≤ big; decide)⟩
theorem zipD_at : ∀ (xs ys : List D) (i : Nat) (d : D), (zipD xs ys)[i]? = some d → ∃ x y, xs[i]? = some x ∧ ys[i]? = some y ∧ d = .tuple [x, y]
  | [], _, _, _, e => by simp [zipD] at e
  | _ :: _, [], _, _, e => by simp [zipD] at e
  | x :: xs, y :: ys, 0, d, e => by simp [zipD] at e; exact ⟨x, y, rfl, rfl, e.symm⟩
  | x :: xs, y :: ys, i + 1, d, e => by
    obtain ⟨a, b, h1, h2, h3⟩ := zipD_at xs ys i d (by simpa [zipD] using e)
    exact ⟨a, b, by simpa using h1, by simpa using h2, h3⟩
theorem zipD_len : ∀ (xs ys : List D), (zipD xs ys).length = min xs.length ys.length
  | [], _ => by simp [zipD]
  | _ :: _, [] => by simp [zipD]
  | x :: xs, y :: ys => by simp [zipD, zipD_len xs ys]
theorem wk_zip (s : Stands K P p false xs) (s2 : Stands K P q false ys) : Wk K P (Itz K p q) (zipD xs ys) := fun i G H hP => by
  obtain ⟨vs, h, r, l⟩ := s G H hP
  obtain ⟨ws, h2, r2, _⟩ := s2 G H hP
  have h : SqL K H p vs := h
  have h2 : SqL K H q ws := h2
  refine ⟨fun d e => ?_, fun e => ⟨vs, ws, h, h2, by rw [zipD_len] at e; rw [r.length, r2.length]; omega⟩⟩
  obtain ⟨x, y, e1, e2, rfl⟩ := zipD_at _ _ _ _ e
  obtain ⟨v, k1, q1⟩ := r.get e1
  obtain ⟨w, k2, q2⟩ := r2.get e2
  refine ⟨⟨vs, ws, v, w, h, h2, k1, k2⟩, fun z H' y => ?_⟩
  obtain ⟨T, a, b, rfl, hT, rfl, f1, f2⟩ := y
  have g1 := f1 vs h
  have g2 := f2 ws h2
  rw [k1] at g1
  rw [k2] at g2
  cases g1
  cases g2
  exact new_pair l hT q1 q2
theorem wk_zipT (s : Stands K P p true xs) (s2 : Stands K P q true ys) : Wk K P (RZ.ItzT K p q) (zipD xs ys) := fun i G H hP => by
  obtain ⟨vs, h, r, l⟩ := s G H hP
  obtain ⟨ws, h2, r2, _⟩ := s2 G H hP
  have h : SqT K H p vs := h
  have h2 : SqT K H q ws := h2
  refine ⟨fun d e => ?_, fun e => ⟨vs, ws, h, h2, by rw [zipD_len] at e; rw [r.length, r2.length]; omega⟩⟩
  obtain ⟨x, y, e1, e2, rfl⟩ := zipD_at _ _ _ _ e
  obtain ⟨v, k1, q1⟩ := r.get e1
  obtain ⟨w, k2, q2⟩ := r2.get e2
  refine ⟨⟨vs, ws, v, w, h, h2, k1, k2⟩, fun z H' y => ?_⟩
  obtain ⟨T, a, b, rfl, hT, rfl, f1, f2⟩ := y
  have g1 := f1 vs h
  have g2 := f2 ws h2
  rw [k1] at g1
  rw [k2] at g2
  cases g1
  cases g2
  exact new_pair l hT q1 q2
theorem enumD_at : ∀ (xs : List D) (n i : Nat) (d : D), (enumD n xs)[i]? = some d → ∃ x, xs[i]? = some x ∧ d = .tuple [.int ((n + i : Nat) : Int), x]
  | [], _, _, _, e => by simp [enumD] at e
  | x :: xs, n, 0, d, e => by simp [enumD] at e; exact ⟨x, rfl, e.symm⟩
  | x :: xs, n, i + 1, d, e => by
    obtain ⟨a, h1, h3⟩ := enumD_at xs (n + 1) i d (by simpa [enumD] using e)
    exact ⟨a, by simpa using h1, by rw [h3, show n + 1 + i = n + (i + 1) by omega]⟩
theorem enumD_len : ∀ (xs : List D) (n : Nat), (enumD n xs).length = xs.length
  | [], _ => rfl
  | x :: xs, n => by simp [enumD, enumD_len xs (n + 1)]
theorem wk_enum (s : Stands K P p false xs) : Wk K P (Ite K p) (enumD 0 xs) := fun i G H hP => by
  obtain ⟨vs, h, r, l⟩ := s G H hP
  have h : SqL K H p vs := h
  refine ⟨fun d e => ?_, fun e => ⟨vs, h, by rw [enumD_len] at e; rw [r.length]; exact e⟩⟩
  obtain ⟨x, e1, rfl⟩ := enumD_at _ _ _ _ e
  obtain ⟨v, k1, q1⟩ := r.get e1
  refine ⟨⟨vs, v, h, k1⟩, fun z H' y => ?_⟩
  obtain ⟨T, a, rfl, hT, rfl, f1⟩ := y
  have g1 := f1 vs h
  rw [k1] at g1
  cases g1
  rw [Nat.zero_add]
  exact new_pair l hT (.int _) q1
theorem wk_revr {n : Nat} (l : ∀ G H, P G H → Le G H) : Wk K P (Itc ((n : Int) - 1) (-1) n) ((List.range n).reverse.map fun i => .int (i : Nat)) := fun i G H hP => by
  refine ⟨fun d e => ?_, fun e => show n ≤ i by simpa using e⟩
  rw [List.getElem?_map] at e
  by_cases hi : i < n
  · rw [List.getElem?_reverse (by simpa using hi), List.length_range, List.getElem?_range (by omega)] at e
    cases e
    refine ⟨hi, fun v H' y => ?_⟩
    obtain ⟨rfl, rfl⟩ := y
    refine ⟨G, Ext.rfl (l _ _ hP), ?_⟩
    have e2 : (n : Int) - 1 + (i : Nat) * (-1) = ((n - 1 - i : Nat) : Int) := by omega
    rw [e2]
    exact .int _
  · rw [List.getElem?_eq_none (by simpa using hi)] at e
    cases e
end
/-- the source, as it will be met: .. -/
theorem stands_of {K : PySem.W.Frag} {ρ : Env} {t t1 : Tape} {G H G1 H1 : Hp} {σ : L2.St} {st : Bool} {r : R} {v : V} {d : D} {xs : List D} {b : Bool} (e0 : EnvOk K C ρ t G σ H) (x1 : Ext (tad C σ) G H G1 H1) (e1 : EnvOk K C ρ t1 G1 σ H1) (q : RE K H G1 H1 ρ σ v r) (hs : seen st r = some d)
    (hd : d = if b then .tuple xs else .list xs) : ∃ a G2, v = .ref a ∧ Ext (tad C σ) G H G2 H1 ∧ Le G1 G2 ∧ EnvOk K C ρ t1 G2 σ H1 ∧ Stands K (Met st (tad C σ) G2 H1) a b xs ∧ xs.length ≤ big ∧ (if b then ∃ vs, SqT K H1 a vs else ∃ vs, SqL K H1 a vs) := by
  have fixed : ∀ G2, Ext (tad C σ) G H G2 H1 → Le G1 G2 → Rp K G2 v d → ∃ a G2, v = .ref a ∧ Ext (tad C σ) G H G2 H1 ∧ Le G1 G2 ∧ EnvOk K C ρ t1 G2 σ H1 ∧ Stands K (Met st (tad C σ) G2 H1) a b xs ∧ xs.length ≤ big ∧ (if b then ∃ vs, SqT K H1 a vs else ∃ vs, SqL K H1 a vs) := by
    intro G2 x2 l2 rp
    cases b with
    | true =>
      simp only [if_true] at hd
      subst hd
      cases rp with
      | tup h1 h2 h3 =>
        refine ⟨_, G2, rfl, x2, l2, e0.rebase e1 x2 l2, fun G3 H3 m => ?_, h3, ⟨_, x2.le.st h1⟩⟩
        exact ⟨_, (m.le.1.trans m.le.2).st h1, RpAll.mono m.le.1 _ _ h2, m.le.2⟩
    | false =>
      simp only [Bool.false_eq_true, if_false] at hd
      subst hd
      cases rp with
      | lst h1 h2 h3 =>
        refine ⟨_, G2, rfl, x2, l2, e0.rebase e1 x2 l2, fun G3 H3 m => ?_, h3, ⟨_, x2.le.sl h1⟩⟩
        exact ⟨_, (m.le.1.trans m.le.2).sl h1, RpAll.mono m.le.1 _ _ h2, m.le.2⟩
  -- a list that is not to stand for ever, met where nothing changes it
  have loose : ∀ a ys, st = false → v = .ref a → d = .list ys → OwnAt K G1 H1 a ys → ¬ tad C σ a → ∃ a G2, v = .ref a ∧ Ext (tad C σ) G H G2 H1 ∧ Le G1 G2 ∧ EnvOk K C ρ t1 G2 σ H1 ∧ Stands K (Met st (tad C σ) G2 H1) a b xs ∧ xs.length ≤ big ∧ (if b then ∃ vs, SqT K H1 a vs else ∃ vs, SqL K H1 a vs) := by
    rintro a ys rfl rfl rfl o nt
    cases b with
    | true => simp at hd
    | false =>
      simp only [Bool.false_eq_true, if_false] at hd
      cases hd
      refine ⟨a, G1, rfl, x1, Le.rfl, e1, fun G3 H3 m => ?_, o.z, ?_⟩
      · have m : Ext (tad C σ) G1 H1 G3 H3 := m
        obtain ⟨g, ⟨vs, h, rp⟩, z⟩ := o.ext m nt
        exact ⟨vs, .of h, rp, m.le⟩
      · obtain ⟨g, ⟨vs, h, rp⟩, z⟩ := o
        exact ⟨vs, .of h⟩
  cases r with
  | val e =>
    have : e = d := by cases st <;> (simp [seen, R.fix, R.look] at hs; exact hs)
    subst this
    exact fixed G1 x1 Le.rfl q
  | own ys =>
    obtain ⟨a, rfl, f, o⟩ := q
    cases st with
    | true =>
      simp [seen, R.fix] at hs
      subst hs
      obtain ⟨g, ⟨vs, h, rp⟩, z⟩ := o
      exact fixed (upd G1 a (.lst vs)) (x1.frz f g h) (Le.upd g) (.lst (.inl (.inl upd_same)) (RpAll.mono (Le.upd g) _ _ rp) z)
    | false =>
      simp [seen, R.look] at hs
      exact loose a ys rfl rfl hs.symm o fun z => (e0.tp2 a z).there f
  | bor ys =>
    obtain ⟨a, i, rfl, h1, h2⟩ := q
    cases st with
    | true => simp [seen, R.fix] at hs
    | false =>
      simp [seen, R.look] at hs
      obtain ⟨b', k1, k2⟩ := e1.own i ys h2
      rw [h1] at k1
      cases k1
      exact loose a ys rfl rfl hs.symm k2 fun z => e1.tp3 a i ys z h2 h1
theorem i_ex {st : Bool} {tg : Expr} (ha : PE X a (rE C X.K ma)) : PI X tg a (rI C X.K st fun ρ => bnd (ma ρ) fun x => lift ((seen st x).bind iterD)) := by
  refine ((pi_list ha).or ((pi_tup ha).or (pi_str ha))).imp ?_
  rintro σ H Q ⟨ρ, t, G, ds, t', e0, h, k⟩
  obtain ⟨x, t1, h1, hB⟩ := bnd_some h
  obtain ⟨h2, rfl⟩ := lift_some' hB
  cases hs : seen st x with
  | none => rw [hs] at h2; cases h2
  | some d =>
    rw [hs] at h2
    simp only [Option.bind_some] at h2
    cases d <;> simp only [iterD, reduceCtorEq] at h2
    · cases h2
      rename_i z
      refine .inr (.inr ⟨ρ, t, G, x, _, e0, h1, fun v G1 H1 x1 e1 q => ?_⟩)
      have hx : x = .val (.str z) := by
        cases x <;> cases st <;> simp [seen, R.fix, R.look] at hs <;> rw [hs]
      subst hx
      cases q with
      | str _ hz => exact ⟨z, rfl, k _ G1 H1 x1 e1 (wk_str fun _ _ m => m.le.2) (by rw [List.length_map]; simpa [Str.length] using hz)⟩
    · cases h2
      refine .inl ⟨ρ, t, G, x, _, e0, h1, fun v G1 H1 x1 e1 q => ?_⟩
      obtain ⟨p, G2, rfl, x2, l2, e2, s, z, hq⟩ := stands_of (b := false) e0 x1 e1 q hs rfl
      exact ⟨p, rfl, hq, k _ G2 H1 x2 e2 (wk_list s) z⟩
    · cases h2
      refine .inr (.inl ⟨ρ, t, G, x, _, e0, h1, fun v G1 H1 x1 e1 q => ?_⟩)
      obtain ⟨p, G2, rfl, x2, l2, e2, s, z, hq⟩ := stands_of (b := true) e0 x1 e1 q hs rfl
      exact ⟨p, rfl, hq, k _ G2 H1 x2 e2 (wk_tup s) z⟩
theorem i_rng {st : Bool} {tg : Expr} {p : Pos} (hg : Gl X "range") (hm : X.mg "range" = none) (ha : PE X a (rE C X.K ma)) (hn : ∀ x p, a ≠ .Starred x p) :
    PI X tg (.Call (.Name "range" p) [a] [] pos) (rI C X.K st fun ρ => bnd (ma ρ) fun x => lift (match x with
      | .val (.int n) => if n.natAbs ≤ big then some ((List.range n.toNat).map fun i => .int (i : Nat)) else none
      | _ => none)) := by
  refine (pi_range1 hg hm (pa_cons ha pa_nil (notStar_each hn)) (notStar_each hn)).imp ?_
  rintro σ H Q ⟨ρ, t, G, ds, t', e0, h, k⟩
  obtain ⟨x, t1, h1, hB⟩ := bnd_some h
  obtain ⟨h2, rfl⟩ := lift_some' hB
  split at h2
  · rename_i n
    split at h2
    · rename_i hz
      cases h2
      refine ⟨ρ, t, G, _, _, e0, h1, fun v G1 H1 x1 e1 q => ?_⟩
      cases q
      simp only [big] at hz
      exact ⟨n, rfl, by omega, by omega, k _ G1 H1 x1 e1 (wk_rng fun _ _ m => m.le.2) (by simp only [List.length_map, List.length_range, big]; omega)⟩
    · cases h2
  · cases h2
end
end Ev

set_option Elab.async false
set_option linter.all false
set_option maxRecDepth 100000
set_option maxHeartbeats 1000000
/-! EvG2: more of what is walked; small expressions. -/
namespace Ev
open PySem PySem.Spec PyProof.Rows L2
theorem stands_of2 {K : PySem.W.Frag} {C : Option Nat} {ρ : Env} {t t1 : Tape} {G H G1 H1 Gx : Hp} {σ : L2.St} {st : Bool} {r : R} {v : V} {d : D} {xs : List D} {b : Bool} (e0 : EnvOk K C ρ t G σ H) (x1 : Ext (tad C σ) G H Gx H1) (lx : Le G1 Gx) (e1 : EnvOk K C ρ t1 Gx σ H1) (q : RE K H G1 H1 ρ σ v r) (hs : seen st r = some d)
    (hd : d = if b then .tuple xs else .list xs) : ∃ a G2, v = .ref a ∧ Ext (tad C σ) G H G2 H1 ∧ Le Gx G2 ∧ EnvOk K C ρ t1 G2 σ H1 ∧ Stands K (Met st (tad C σ) G2 H1) a b xs ∧ xs.length ≤ big ∧ (if b then ∃ vs, SqT K H1 a vs else ∃ vs, SqL K H1 a vs) ∧ (st = false → G2 = Gx) := by
  have fixed : ∀ G2, Ext (tad C σ) G H G2 H1 → Le Gx G2 → (st = false → G2 = Gx) → Rp K G2 v d → ∃ a G2, v = .ref a ∧ Ext (tad C σ) G H G2 H1 ∧ Le Gx G2 ∧ EnvOk K C ρ t1 G2 σ H1 ∧ Stands K (Met st (tad C σ) G2 H1) a b xs ∧ xs.length ≤ big ∧ (if b then ∃ vs, SqT K H1 a vs else ∃ vs, SqL K H1 a vs) ∧ (st = false → G2 = Gx) := by
    intro G2 x2 l2 hst rp
    cases b with
    | true =>
      simp only [if_true] at hd
      subst hd
      cases rp with
      | tup h1 h2 h3 =>
        refine ⟨_, G2, rfl, x2, l2, e0.rebase e1 x2 l2, fun G3 H3 m => ?_, h3, ⟨_, x2.le.st h1⟩, hst⟩
        exact ⟨_, (m.le.1.trans m.le.2).st h1, RpAll.mono m.le.1 _ _ h2, m.le.2⟩
    | false =>
      simp only [Bool.false_eq_true, if_false] at hd
      subst hd
      cases rp with
      | lst h1 h2 h3 =>
        refine ⟨_, G2, rfl, x2, l2, e0.rebase e1 x2 l2, fun G3 H3 m => ?_, h3, ⟨_, x2.le.sl h1⟩, hst⟩
        exact ⟨_, (m.le.1.trans m.le.2).sl h1, RpAll.mono m.le.1 _ _ h2, m.le.2⟩
  have loose : ∀ a ys, st = false → v = .ref a → d = .list ys → OwnAt K Gx H1 a ys → ¬ tad C σ a → ∃ a G2, v = .ref a ∧ Ext (tad C σ) G H G2 H1 ∧ Le Gx G2 ∧ EnvOk K C ρ t1 G2 σ H1 ∧ Stands K (Met st (tad C σ) G2 H1) a b xs ∧ xs.length ≤ big ∧ (if b then ∃ vs, SqT K H1 a vs else ∃ vs, SqL K H1 a vs) ∧ (st = false → G2 = Gx) := by
    rintro a ys rfl rfl rfl o nt
    cases b with
    | true => simp at hd
    | false =>
      simp only [Bool.false_eq_true, if_false] at hd
      cases hd
      refine ⟨a, Gx, rfl, x1, Le.rfl, e1, fun G3 H3 m => ?_, o.z, ?_, fun _ => rfl⟩
      · have m : Ext (tad C σ) Gx H1 G3 H3 := m
        obtain ⟨g, ⟨vs, h, rp⟩, z⟩ := o.ext m nt
        exact ⟨vs, .of h, rp, m.le⟩
      · obtain ⟨g, ⟨vs, h, rp⟩, z⟩ := o
        exact ⟨vs, .of h⟩
  cases r with
  | val e =>
    have : e = d := by cases st <;> (simp [seen, R.fix, R.look] at hs; exact hs)
    subst this
    exact fixed Gx x1 Le.rfl (fun _ => rfl) (Rp.mono lx _ _ q)
  | own ys =>
    obtain ⟨a, rfl, f, o⟩ := q
    have hy : d = .list ys := by cases st <;> (simp [seen, R.fix, R.look] at hs; exact hs.symm)
    obtain ⟨g, ⟨vs, h, rp⟩, z⟩ := o
    by_cases hg : Gx a = none
    · cases st with
      | true =>
        subst hy
        exact fixed (upd Gx a (.lst vs)) (x1.frz f hg h) (Le.upd hg) (fun z => by cases z) (.lst (.inl (.inl upd_same)) (RpAll.mono (lx.trans (Le.upd hg)) _ _ rp) z)
      | false => exact loose a ys rfl rfl hy ⟨hg, ⟨vs, h, RpAll.mono lx _ _ rp⟩, z⟩ fun z => (e0.tp2 a z).there f
    · obtain ⟨u, hu⟩ := Option.ne_none_iff_exists'.mp hg
      have e := x1.le _ _ hu
      rw [h] at e
      cases e
      subst hy
      exact fixed Gx x1 Le.rfl (fun _ => rfl) (.lst (.inl (.inl hu)) (RpAll.mono lx _ _ rp) z)
  | bor ys =>
    obtain ⟨a, i, rfl, h1, h2⟩ := q
    cases st with
    | true => simp [seen, R.fix] at hs
    | false =>
      simp [seen, R.look] at hs
      obtain ⟨b', k1, k2⟩ := e1.own i ys h2
      rw [h1] at k1
      cases k1
      exact loose a ys rfl rfl hs.symm k2 fun z => e1.tp3 a i ys z h2 h1
theorem Stands.mono {K : PySem.W.Frag} {ta : Addr → Prop} {st : Bool} {G G' H : Hp} {a : Addr} {b : Bool} {xs : List D} (s : Stands K (Met st ta G H) a b xs) (l : Le G G') (h : st = false → G' = G) : Stands K (Met st ta G' H) a b xs := by
  cases st with
  | true => exact fun G2 H2 m => s G2 H2 ⟨l.trans m.1, m.2⟩
  | false => rw [h rfl]; exact s
section
variable {X : Cx} {C : Option Nat} {a b c : Expr} {es : List Expr} {ma mb mc : Env → M R} {me : Env → M (List R)} {pos : Pos}
theorem seen_kind {st : Bool} {r : R} {d : D} {xs : List D} {b : Bool} (h : seen st r = some d) (e : d = if b then .tuple xs else .list xs) : True := trivial
theorem i_zip {st : Bool} {p tpos : Pos} {elts : List Expr} {kk : Nat} (hg : Gl X "zip") (hm : X.mg "zip" = none) (ha : PE X a (rE C X.K ma)) (hb : PE X b (rE C X.K mb)) (hn : ∀ x p, a ≠ .Starred x p) (hn2 : ∀ x p, b ≠ .Starred x p) :
    PI X (.Tuple elts kk tpos) (.Call (.Name "zip" p) [a, b] [] pos) (rI C X.K st fun ρ => bnd (ma ρ) fun x => bnd (mb ρ) fun y => lift (match seen st x, seen st y with
      | some (.list xs), some (.list ys) => some (zipD xs ys)
      | some (.tuple xs), some (.tuple ys) => some (zipD xs ys)
      | _, _ => none)) := by
  refine (RZ.pi_zipA hg hm (pa_cons ha (pa_cons hb pa_nil (notStar_each hn2)) (notStar_each hn)) (notStar_each hn) (by rw [notStar_each hn2]; rfl)).imp ?_
  rintro σ H Q ⟨ρ, t, G, ds, t', e0, h, k⟩
  obtain ⟨x, t1, h1, hB⟩ := bnd_some h
  obtain ⟨y, t2, h2, hC⟩ := bnd_some hB
  obtain ⟨h3, rfl⟩ := lift_some' hC
  refine ⟨ρ, t, G, x, t1, e0, h1, fun v1 G1 H1 x1 e1 q1 => ⟨ρ, t1, G1, y, _, e1, h2, fun v2 G2 H2 x2 e2 q2 => ?_⟩⟩
  have key : ∀ (b : Bool) (xs ys : List D), seen st x = some (if b then PyData.tuple xs else .list xs) → seen st y = some (if b then PyData.tuple ys else .list ys) → ds = zipD xs ys →
      ∃ p q G3, v1 = .ref p ∧ v2 = .ref q ∧ Ext (tad C σ) G H G3 H2 ∧ EnvOk X.K C ρ t' G3 σ H2 ∧ Stands X.K (Met st (tad C σ) G3 H2) p b xs ∧ Stands X.K (Met st (tad C σ) G3 H2) q b ys ∧ xs.length ≤ big ∧ (if b then ∃ vs, SqT X.K H2 p vs else ∃ vs, SqL X.K H2 p vs) ∧ (if b then ∃ vs, SqT X.K H2 q vs else ∃ vs, SqL X.K H2 q vs) := by
    intro b xs ys hx hy _
    obtain ⟨p, Gp, rfl, xp, lp, ep, sp, zp, hp, cp⟩ := stands_of2 (b := b) e0 (x1.trans x2) Le.rfl e2 (RE.next e0 q1 x2) hx rfl
    have q2' : RE X.K H G2 H2 ρ σ v2 y := by
      cases y with
      | val d => exact q2
      | own xs => obtain ⟨a, rfl, f, o⟩ := q2; exact ⟨a, rfl, x1.fresh f, o⟩
      | bor xs => exact q2
    obtain ⟨q, Gq, rfl, xq, lq, eq, sq, zq, hq, cq⟩ := stands_of2 (b := b) e0 xp lp ep q2' hy rfl
    exact ⟨p, q, Gq, rfl, rfl, xq, eq, sp.mono lq cq, sq, zp, hp, hq⟩
  have zl : ∀ xs ys : List D, xs.length ≤ big → (zipD xs ys).length ≤ big := fun xs ys z => by rw [zipD_len]; omega
  split at h3
  · rename_i xs ys hx hy
    cases h3
    obtain ⟨p, q, G3, rfl, rfl, x3, e3, s1, s2, z, ⟨vs, k1⟩, ⟨ws, k2⟩⟩ := key false xs ys hx hy rfl
    exact ⟨p, q, vs, ws, rfl, .inl ⟨k1, k2, k _ G3 H2 x3 e3 (wk_zip s1 s2) (zl _ _ z)⟩⟩
  · rename_i xs ys hx hy
    cases h3
    obtain ⟨p, q, G3, rfl, rfl, x3, e3, s1, s2, z, ⟨vs, k1⟩, ⟨ws, k2⟩⟩ := key true xs ys hx hy rfl
    exact ⟨p, q, vs, ws, rfl, .inr ⟨k1, k2, k _ G3 H2 x3 e3 (wk_zipT s1 s2) (zl _ _ z)⟩⟩
  · cases h3
theorem i_revr {st : Bool} {tg : Expr} {p p2 pos2 : Pos} (hg : Gl X "reversed") (hm : X.mg "reversed" = none) (hg2 : Gl X "range") (hm2 : X.mg "range" = none) (ha : PE X a (rE C X.K ma)) (hn : ∀ x p, a ≠ .Starred x p) :
    PI X tg (.Call (.Name "reversed" p) [.Call (.Name "range" p2) [a] [] pos2] [] pos) (rI C X.K st fun ρ => bnd (ma ρ) fun x => lift (match x with
      | .val (.int n) => if n.natAbs ≤ big then some ((List.range n.toNat).reverse.map fun i => .int (i : Nat)) else none
      | _ => none)) := by
  refine (pi_revR hg hm (prg_1 hg2 hm2 ha (notStar_each hn)) rfl).imp ?_
  rintro σ H Q ⟨ρ, t, G, ds, t', e0, h, k⟩
  obtain ⟨x, t1, h1, hB⟩ := bnd_some h
  obtain ⟨h2, rfl⟩ := lift_some' hB
  split at h2
  · rename_i n
    split at h2
    · rename_i hz
      cases h2
      refine ⟨ρ, t, G, _, _, e0, h1, fun v G1 H1 x1 e1 q => ?_⟩
      cases q
      simp only [big] at hz
      refine ⟨n, rfl, by omega, by omega, by omega, by omega, ?_⟩
      have e : (0 : Int) + (((n - 0).toNat : Nat) : Int) - 1 = ((n.toNat : Nat) : Int) - 1 := by rw [Int.sub_zero, Int.zero_add]
      rw [e, Int.sub_zero]
      exact k _ G1 H1 x1 e1 (wk_revr fun _ _ m => m.le.2) (by simp only [List.length_map, List.length_reverse, List.length_range, big]; omega)
    · cases h2
  · cases h2
theorem e_glob {x : Str} {v : V} {u : Value} {Γ : Str → Option D} (hg : Gl X x) (hm : X.mg x = some u) (r : RelV v u) (hd : (x == ("__debug__" : Str)) = false) (hr : ∀ d, Γ x = some d → ∀ G, Rp X.K G v d) : PE X (.Name x pos) (rE C X.K fun _ => lift ((Γ x).map .val)) :=
  (pe_glob hg hm r hd).imp fun σ H Q ⟨ρ, t, G, r', t', e0, h, k⟩ => by
    obtain ⟨h2, rfl⟩ := lift_some' h
    cases hx : Γ x with
    | none => rw [hx] at h2; cases h2
    | some d =>
      rw [hx] at h2
      cases h2
      exact k v G H (Ext.rfl e0.le) e0 (hr d hx G)
theorem e_lrng {p p2 pos2 : Pos} (hc : X.calm = true) (hg : Gl X "list") (hm : X.mg "list" = none) (hg2 : Gl X "range") (hm2 : X.mg "range" = none) (ha : PE X a (rE C X.K ma)) (hn : ∀ x p, a ≠ .Starred x p) :
    PE X (.Call (.Name "list" p) [.Call (.Name "range" p2) [a] [] pos2] [] pos) (rE C X.K fun ρ => bnd (ma ρ) fun x => lift (match x with
      | .val (.int n) => if n.natAbs ≤ big then some (.own ((List.range n.toNat).map fun i => .int (i : Nat))) else none
      | _ => none)) := by
  refine (pe_listRg hc hg hm (prg_1 hg2 hm2 ha (notStar_each hn)) rfl).imp ?_
  rintro σ H Q ⟨ρ, t, G, r, t', e0, h, k⟩
  obtain ⟨x, t1, h1, hB⟩ := bnd_some h
  obtain ⟨h2, rfl⟩ := lift_some' hB
  split at h2
  · rename_i n
    split at h2
    · rename_i hz
      cases h2
      refine ⟨ρ, t, G, _, _, e0, h1, fun v G1 H1 x1 e1 q => ?_⟩
      cases q
      simp only [big] at hz
      refine ⟨n, rfl, ⟨by omega, by omega, by omega, by omega, by omega⟩, ?_⟩
      refine (post_of k x1 e1).lst x1.le ?_ (by simp only [List.length_map, List.length_range, big]; omega)
      have key : ∀ l : List Nat, RpAll X.K G1 (l.map fun k : Nat => V.int (0 + (k : Int))) (l.map fun i => PyData.int (i : Nat)) := by
        intro l
        induction l with
        | nil => exact .nil
        | cons x r ih => exact .cons (by show Rp X.K G1 (V.int (0 + (x : Int))) _; rw [Int.zero_add]; exact .int _) ih
      unfold rgV
      rw [Int.sub_zero]
      exact key _
    · cases h2
  · cases h2
end
end Ev

set_option Elab.async false
set_option linter.all false
set_option maxRecDepth 100000
set_option maxHeartbeats 2000000
/-! EvG3: enumerate of a tuple. -/
namespace Ev
open PySem PySem.Spec PyProof.Rows L2
open Sem (wp)
open AutoSeq1 (wpAny_loadPart')
section
variable {prog : Program} {w : World} {A : Around} {E : Value → Shared → Prop} {s : Shared}
theorem nextOf_tuple_item {it t : Addr} {i : Nat} {items : Array Value} {x : Value} {Q : Value → Shared → Prop} (hit : s.heap.IsTupleIter it t i)
    (ht : s.heap.IsTuple t items) (hx : items[i]? = some x) (hQ : ∀ h', h'.IsTupleIter it t (i + 1) → Heap.SameBut it s.heap h' → Q x { s with heap := h' }) :
    wpAny (model prog w) A (Builtin.SmallTypes.nextOf (.ref it)) Q E s := by
  obtain ⟨o, ho, hc, hd⟩ := id hit
  obtain ⟨ol, hol, _, nl, hdl⟩ := ht
  unfold Builtin.SmallTypes.nextOf
  refine wpAny_bind (wpAny_callSpecial?_slot (name := Str.ofString "__next__") hit.typeIs F.slot_tuple_iterator_next
    (wpAny_call_entry F.slot_tuple_iterator_next hit.typeIs F.entry_tuple_iterator_next ?_ (F.args_tuple_iterator_next_1 _)))
  show wpAny _ _ (field (.ref it) 0 >>= _) _ _ s
  refine wpAny_bind (wpAny_field ho hd (x := .ref t) rfl ?_)
  show wpAny _ _ (if (Value.ref t == Value.none) = true then _ else _) _ _ s
  rw [if_neg (show ¬ ((Value.ref t == Value.none) = true) from Bool.false_ne_true)]
  show wpAny _ _ (field (.ref it) 1 >>= _) _ _ s
  refine wpAny_bind (wpAny_field ho hd (x := .int i 0) rfl ?_)
  show wpAny _ _ (seqItems? (.ref t) >>= _) _ _ s
  refine wpAny_bind (wpAny_seqItems hol hdl ?_)
  simp only [Int.toNat_natCast, hx]
  refine wpAny_bind (wpAny_setField ho hd (by simp) (wpAny_pure ⟨x, rfl, wpAny_pure (hQ _ ?_ (Heap.SameBut.update ..))⟩))
  exact ⟨_, Heap.get?_update_self _ ho (Obj.isFreed_of_fields (Obj.data_mapFields hd _)), (Obj.cls_mapFields ..).trans hc, by
    rw [Obj.data_mapFields hd]; simp [rawInt]⟩
theorem nextOf_tuple_end {it t : Addr} {i : Nat} {items : Array Value} {Q : Value → Shared → Prop} (hh : A.handled = none)
    (hit : s.heap.IsTupleIter it t i) (ht : s.heap.IsTuple t items) (hx : items[i]? = none)
    (hE : ∀ h' e, Heap.ExtBut it s.heap h' → (∃ o, h'.get? e = some o ∧ o.cls = .type "StopIteration") → E (.ref e) { s with heap := h' }) : wpAny (model prog w) A (Builtin.SmallTypes.nextOf (.ref it)) Q E s := by
  obtain ⟨o, ho, hc, hd⟩ := id hit
  obtain ⟨ol, hol, _, nl, hdl⟩ := ht
  unfold Builtin.SmallTypes.nextOf
  refine wpAny_bind (wpAny_callSpecial?_slot (name := Str.ofString "__next__") hit.typeIs F.slot_tuple_iterator_next
    (wpAny_call_entry F.slot_tuple_iterator_next hit.typeIs F.entry_tuple_iterator_next ?_ (F.args_tuple_iterator_next_1 _)))
  show wpAny _ _ (field (.ref it) 0 >>= _) _ _ s
  refine wpAny_bind (wpAny_field ho hd (x := .ref t) rfl ?_)
  show wpAny _ _ (if (Value.ref t == Value.none) = true then _ else _) _ _ s
  rw [if_neg (show ¬ ((Value.ref t == Value.none) = true) from Bool.false_ne_true)]
  show wpAny _ _ (field (.ref it) 1 >>= _) _ _ s
  refine wpAny_bind (wpAny_field ho hd (x := .int i 0) rfl ?_)
  show wpAny _ _ (seqItems? (.ref t) >>= _) _ _ s
  refine wpAny_bind (wpAny_seqItems hol hdl ?_)
  simp only [Int.toNat_natCast, hx]
  refine wpAny_bind (wpAny_rule (wpAny_bind (wpAny_setField ho hd (by simp) ?_)))
  show wpAny _ _ (newExc (.type "StopIteration") [] >>= _) _ _ _
  refine wpAny_bind ?_
  simp only [newExc, newTuple]
  refine wpAny_bind (wpAny_newObj_type ?_ (by size_fits))
  refine wpAny_bind (m := firstArgMember _ _) (wpAny_of_eq (a := Value.none) (by first | rfl | (simp only [firstArgMember]; rfl)) ?_)
  refine wpAny_newObj_type ?_ (by size_fits)
  simp only [raiseNew]
  refine wpAny_bind (wpAny_handled ?_)
  first | rw [show A.in1.handled = none from hh] | rw [hh]
  refine wpAny_bind (wpAny_pure (wpAny_throw ?_))
  exact hE _ _ (((Heap.SameBut.update ..).extBut.push _).push _) ⟨_, Heap.get?_push_size _ rfl, rfl⟩
theorem enum_endT {e it t : Addr} {j : Nat} {items : Array Value} {Q : Option Value → Shared → Prop} {i : Int} {old : Value} (hh : A.handled = none) (he : IsEnum s.heap e it i old) (hit : s.heap.IsTupleIter it t j) (ht : s.heap.IsTuple t items) (hx : items[j]? = none)
    (hQ : ∀ h', Heap.ExtBut it s.heap h' → Q none { s with heap := h' }) : wpAny (model prog w) A (pyNext (.ref e)) Q E s := by
  have hT : s.TypeIs (.ref e) "enumerate" := ⟨_, he, rfl⟩
  unfold pyNext
  refine wpAny_bind (wpAny_attempt (wpAny_callSpecial?_slot (name := Str.ofString "__next__") hT F.slot_enumerate_next
    (wpAny_call_entry F.slot_enumerate_next hT F.entry_enumerate_next ?_ (F.args_enumerate_next_1 _))))
  show wpAny _ _ (field (.ref e) 2 >>= _) _ _ _
  refine wpAny_bind (wpAny_field he rfl (x := .ref it) rfl ?_)
  refine wpAny_bind (nextOf_tuple_end (A := A.in1) hh hit ht hx fun h' x he' hx' => ?_)
  obtain ⟨o, ho, hc⟩ := hx'
  refine wpAny_bind (wpAny_isInstance (T := "StopIteration") (b := true) ⟨o, ho, hc⟩ isSubtype_stop ?_)
  exact wpAny_pure (hQ _ he')
theorem draws_tuple (hh : A.handled = none) (it t : Addr) (hne : t ≠ it) (items : Array Value) :
    Draws prog w A it [it, t] items.size (fun i v => items[i]? = some v) (fun i h => h.IsTupleIter it t i ∧ h.IsTuple t items) where
  live := fun _ _ st => let ⟨o, ho, _⟩ := st.1; ⟨o, ho⟩
  frame := fun _ _ _ st hk => ⟨let ⟨o, ho, r⟩ := st.1; ⟨o, hk it (by simp) o ho, r⟩, let ⟨o, ho, r⟩ := st.2; ⟨o, hk t (by simp) o ho, r⟩⟩
  item := fun i s Q E hi st hQ => by
    refine nextOf_tuple_item st.1 st.2 (x := items[i]) (by simp [hi]) fun h' hit' hs' => ?_
    exact hQ _ h' s.toks (by simp [hi]) ⟨hit', st.2.extBut hs'.extBut hne⟩ hs'
  done := fun s Q E st hE => nextOf_tuple_end hh st.1 st.2 (by simp) hE
theorem meets_enumerate_newT (l : Addr) (items : Array Value) (n : Nat) (dct : Option Addr) (sl : Array (Option Value)) :
    Meets (Builtin.«enumerate.__new__» ⟨[.type "enumerate", .ref l], []⟩) (fun _ R s => s.heap.get? l = some { cls := .type "tuple", dict := dct, data := .seq items n, slots := sl } ∧
      R (.ok (.ret (.ref (s.heap.push { cls := .type "tuple_iterator", data := .fields #[.ref l, .int 0 0] }).objs.size)))
        { s with heap := (s.heap.push { cls := .type "tuple_iterator", data := .fields #[.ref l, .int 0 0] }).push { cls := .type "enumerate", data := .fields #[.none, .bool false, .ref s.heap.objs.size, rawInt 0, .none, .none] } }) :=
  .of_wp fun prog w A R s h => by
    obtain ⟨hp, g, d, tk, os⟩ := s; obtain ⟨hl, h⟩ := h
    have hsub := sub_enumerate
    have hL : Heap.IsTuple (Shared.heap ⟨hp, g, d, tk, os⟩) l items := ⟨_, hl, rfl, n, rfl⟩
    wp_walk using wpAny_loadPart' hl
    refine wpAny_stack_any fun st => wpAny_pure ?_
    split
    · rename_i c _ _ _ _ _
      cases (c == Value.type "enumerate")
      · wp_walk using wpAny_loadPart' hl, wpAny_pyIter_tuple hL
        exact ⟨_, rfl, h⟩
      · wp_walk using wpAny_loadPart' hl, wpAny_pyIter_tuple hL
        exact ⟨_, rfl, h⟩
    · wp_walk using wpAny_loadPart' hl, wpAny_pyIter_tuple hL
      exact ⟨_, rfl, h⟩
theorem call_enumerate_tuple {l : Addr} {items : Array Value} {Q : Value → Shared → Prop} (hL : s.heap.IsTuple l items)
    (h : ∀ h', IsEnum h' (s.heap.objs.size + 1) s.heap.objs.size 0 .none → h'.IsTupleIter s.heap.objs.size l 0 → h'.objs.size = s.heap.objs.size + 2 →
      (∀ b o, s.heap.get? b = some o → h'.get? b = some o) → Q (.ref (s.heap.objs.size + 1)) { s with heap := h' }) :
    wpAny (model prog w) A (call (.type "enumerate") [.ref l]) Q E s := by
  obtain ⟨⟨c, dct, dt, sl⟩, hl, hc, n, hd⟩ := hL
  replace hc : c = .type "tuple" := hc
  replace hd : dt = .seq items n := hd
  subst hc hd
  refine callType_new F.called_enumerate (by decide) (F.typeCall_enumerate_1 _) (F.newCall_enumerate_1 _) (fun obj => F.args_object_init_2 obj _) F.entry_enumerate_new
    (meets_enumerate_newT l items n dct sl) ⟨hl, ?_⟩
  have hz : (s.heap.push { cls := .type "tuple_iterator", data := .fields #[.ref l, .int 0 0] }).objs.size = s.heap.objs.size + 1 := Heap.size_push ..
  show _ ∧ _
  rw [hz]
  have he : IsEnum ((s.heap.push { cls := .type "tuple_iterator", data := .fields #[.ref l, .int 0 0] }).push
      { cls := .type "enumerate", data := .fields #[.none, .bool false, .ref s.heap.objs.size, rawInt 0, .none, .none] }) (s.heap.objs.size + 1) s.heap.objs.size 0 .none := by
    have := Heap.get?_push_size (s.heap.push { cls := .type "tuple_iterator", data := .fields #[.ref l, .int 0 0] })
      (o := { cls := .type "enumerate", data := .fields #[.none, .bool false, .ref s.heap.objs.size, rawInt 0, .none, .none] }) rfl
    rw [hz] at this; exact this
  refine ⟨⟨_, he, rfl⟩, h _ he ⟨_, Heap.get?_push_of_some _ (Heap.get?_push_size _ rfl), rfl, rfl⟩ (by rw [Heap.size_push, hz]) fun b o x => Heap.get?_push_of_some _ (Heap.get?_push_of_some _ x)⟩
end
/-- the tuple at a, each item in a new pair -/
def IteT (K : PySem.W.Frag) (a : Addr) : It :=
  ⟨fun i H => ∃ (xs : List V) (x : V), SqT K H a xs ∧ xs[i]? = some x, fun i H v H' => ∃ T x, v = .ref T ∧ H T = none ∧ H' = upd H T (.tup [.int (i : Nat), x]) ∧ ∀ xs, SqT K H a xs → xs[i]? = some x, fun i H => ∃ xs : List V, SqT K H a xs ∧ xs.length ≤ i⟩
theorem turn_enumT {P : Program} {w : World} {K : PySem.W.Frag} {elts : List Expr} {kk : Nat} {tpos : Pos} (a e it : Addr) :
    Turn P w K (.Tuple elts kk tpos) (IteT K a) [e, it] e (fun i h => (∃ old, IsEnum h e it ((i : Nat) : Int) old) ∧ h.IsTupleIter it a i ∧ e ≠ it ∧ a ≠ it ∧ a ≠ e) where
  mem := by simp
  obj := fun i h st b hb => by
    obtain ⟨⟨old, he⟩, ⟨o, ho, hc, hd⟩, _⟩ := st
    have e' : b = e ∨ b = it := by simpa using hb
    rcases e' with z | z
    · rw [z]; exact ⟨_, he, fun v q => nomatch q⟩
    · rw [z]; exact ⟨o, ho, fun v q => by rw [hd] at q; cases q⟩
  keep := fun i h h' st k => let ⟨⟨old, he⟩, ⟨o, ho, r⟩, hne⟩ := st; ⟨⟨old, k e (by simp) _ he⟩, ⟨o, k it (by simp) o ho, r⟩, hne⟩
  item := by
    intro X hP hw hK hc i pins s σ H E I hf st hg
    subst hP hw hK
    obtain ⟨⟨old, he⟩, hit, hne, hai, hae⟩ := st
    obtain ⟨xs, x, hq, hx⟩ := hg
    obtain ⟨its, rv, p, hz⟩ := I.tuple hq
    obtain ⟨u, hu, ru⟩ := rv.get hx
    have hi : i < its.toArray.size := by
      have := (List.getElem?_eq_some_iff.mp hu).1
      simpa using this
    have hel : e < s.heap.objs.size := Heap.lt_size he
    have hil : it < s.heap.objs.size := by obtain ⟨_, q, _⟩ := hit; exact Heap.lt_size q
    refine wpAny_pyNext_enum_itemD (draws_tuple (A := X.A.in1) (I.ok.hd hc) it a hai its.toArray) he ⟨hit, p⟩ hi hne (by simp [hne, Ne.symm hae]) fun x' h' tk hx' ho hit' hT hsz hk => ?_
    have hxu : x' = u := by
      rw [List.getElem?_toArray] at hx'
      rw [hu] at hx'
      exact (Option.some.inj hx').symm
    subst hxu
    refine ⟨_, rfl, wpAny_letOwnedTupleGo_enum (s := { s with heap := h', toks := tk + 1 }) ho fun h'' he' sb => ?_⟩
    have hT2 : h''.get? s.heap.objs.size = some { cls := .type "tuple", data := .seq #[.int i tk, x'] } := (sb.2 _ (Nat.ne_of_gt hel)).trans hT
    have new : ObjOk X.prog X.w (upd H s.heap.objs.size (.tup [.int (i : Nat), x])) h'' s.heap.objs.size (.tup [.int (i : Nat), x]) :=
      ⟨by show 2 ≤ sizeLine; decide, [.int i tk, x'], .cons ⟨_, rfl⟩ (.cons ru .nil), ⟨_, hT2, rfl, _, rfl⟩⟩
    have I1 : Inv X pins σ (upd H s.heap.objs.size (.tup [.int (i : Nat), x])) { s with heap := h'', toks := tk + 1 } :=
      I.turnedNew (ch := [e, it]) (fun b ob hb q => (sb.2 b (fun z => hb (by simp [z]))).trans (hk b ob (fun z => hb (by simp [z])) (fun z => hb (by simp [z])) q)) hf (Nat.le_refl _) new
    refine ⟨.ref s.heap.objs.size, _, I1, rfl, ⟨_, x, rfl, I.hok.fresh (Nat.le_refl _), rfl, fun ys hy => by rw [I.tuple_inj hy hq]; exact hx⟩, ⟨⟨x', ?_⟩, ?_, hne, hai, hae⟩, fun b hb => ?_⟩
    · have e1 : ((i + 1 : Nat) : Int) = (i : Int) + 1 := by omega
      rw [e1]; exact he'
    · obtain ⟨o, ho1, r⟩ := hit'.1
      exact ⟨o, (sb.2 it (Ne.symm hne)).trans ho1, r⟩
    · have hb' : b < s.heap.objs.size := by
        have e' : b = e ∨ b = it := by simpa using hb
        rcases e' with z | z
        · rw [z]; exact hel
        · rw [z]; exact hil
      rw [upd_ne (Nat.ne_of_lt hb')]
      exact (hf b hb).1
  done := by
    intro X hP hw hK hc i pins s σ H E I hf st hg
    subst hP hw hK
    obtain ⟨⟨old, he⟩, hit, hne, hai, hae⟩ := st
    obtain ⟨xs, hq, hx⟩ := hg
    obtain ⟨its, rv, p, hz⟩ := I.tuple hq
    obtain ⟨f0, f1, f2, f3, f4, f5⟩ := hf it (by simp)
    have hl := rv.length
    exact enum_endT (I.ok.hd hc) he hit p (by simp; omega) fun h' eb => ⟨rfl, I.turned (t' := s.toks) (fun b o hb q => eb b o hb q) f0 f1 f3 f4 f5⟩
  self := fun A i s Q E st h => let ⟨⟨_, he⟩, _⟩ := st; wpAny_pyIter_enum he h
def iEnumLT (K : PySem.W.Frag) (ta : TA) : TI := fun σ H R => ta σ H fun vs H1 => ∃ a xs, vs = [.ref a] ∧ ((SqL K H1 a xs ∧ R (Ite K a) H1) ∨ (SqT K H1 a xs ∧ R (IteT K a) H1))
theorem pi_enumLT {X : Cx} {e : Expr} {ta : TA} {p pos tpos : Pos} {elts : List Expr} {kk : Nat} (hg : Gl X "enumerate") (hm : X.mg "enumerate" = none) (ha : PA X [e] ta) (hs : starEach [e] X.env = [(false, eval e X.env)] := by rfl) :
    PI X (.Tuple elts kk tpos) (.Call (.Name "enumerate" p) [e] [] pos) (iEnumLT X.K ta) := by
  refine ⟨fun pins s σ H R I h => ?_⟩
  refine Call_ (ld_blt I hg hm boot_enumerate (PyProof.Rows.callWith_type1 (thn (ha.run pos pins s σ H _ I h) fun us s1 ⟨vs, H1, I1, r1, q1⟩ => ?_) hs rfl))
  obtain ⟨a, xs, ex, q⟩ := q1
  subst ex
  cases r1 with
  | cons r rr =>
    cases rr
    cases r
    have fp : ∀ b ∈ [s1.heap.objs.size + 1, s1.heap.objs.size], s1.heap.objs.size ≤ b := fun b hb => by
      have e' : b = s1.heap.objs.size + 1 ∨ b = s1.heap.objs.size := by simpa using hb
      rcases e' with z | z
      · rw [z]; exact Nat.le_add_right _ _
      · rw [z]; exact Nat.le_refl _
    rcases q with ⟨hq, q⟩ | ⟨hq, q⟩
    · obtain ⟨its, rv, p', hz⟩ := I1.list hq
      refine call_enumerate_list p'.isList fun h' he hit hsz hk => wpAny_pyIter_enum he ?_
      have I2 : Inv X pins σ H1 { s1 with heap := h' } := I1.kept (t' := s1.toks) hk
      refine ⟨s1.heap.objs.size + 1, [s1.heap.objs.size + 1, s1.heap.objs.size], _, _, H1, rfl, I2, turn_enum a (s1.heap.objs.size + 1) s1.heap.objs.size, ⟨⟨.none, he⟩, hit, Nat.succ_ne_self _⟩, fun b hb => ?_, q⟩
      exact I1.fpOk (fp b hb) (I1.hok.fresh (fp b hb))
    · obtain ⟨its, rv, p', hz⟩ := I1.tuple hq
      have hal : a < s1.heap.objs.size := by obtain ⟨o, ho, _⟩ := p'; exact Heap.lt_size ho
      refine call_enumerate_tuple p' fun h' he hit hsz hk => wpAny_pyIter_enum he ?_
      have I2 : Inv X pins σ H1 { s1 with heap := h' } := I1.kept (t' := s1.toks) hk
      refine ⟨s1.heap.objs.size + 1, [s1.heap.objs.size + 1, s1.heap.objs.size], _, _, H1, rfl, I2, turn_enumT a (s1.heap.objs.size + 1) s1.heap.objs.size, ⟨⟨.none, he⟩, hit, Nat.succ_ne_self _, Nat.ne_of_lt hal, Nat.ne_of_lt (Nat.lt_succ_of_lt hal)⟩, fun b hb => ?_, q⟩
      exact I1.fpOk (fp b hb) (I1.hok.fresh (fp b hb))
section
variable {K : PySem.W.Frag} {P : Hp → Hp → Prop} {p : Addr} {xs : List D}
theorem wk_enumT (s : Stands K P p true xs) : Wk K P (IteT K p) (enumD 0 xs) := fun i G H hP => by
  obtain ⟨vs, h, r, l⟩ := s G H hP
  have h : SqT K H p vs := h
  refine ⟨fun d e => ?_, fun e => ⟨vs, h, by rw [enumD_len] at e; rw [r.length]; exact e⟩⟩
  obtain ⟨x, e1, rfl⟩ := enumD_at _ _ _ _ e
  obtain ⟨v, k1, q1⟩ := r.get e1
  refine ⟨⟨vs, v, h, k1⟩, fun z H' y => ?_⟩
  obtain ⟨T, a, rfl, hT, rfl, f1⟩ := y
  have g1 := f1 vs h
  rw [k1] at g1
  cases g1
  rw [Nat.zero_add]
  exact new_pair l hT (.int _) q1
end
section
variable {X : Cx} {C : Option Nat} {a b c : Expr} {es : List Expr} {ma mb mc : Env → M R} {me : Env → M (List R)} {pos : Pos}
theorem i_enumLT {st : Bool} {p tpos : Pos} {elts : List Expr} {kk : Nat} (hg : Gl X "enumerate") (hm : X.mg "enumerate" = none) (ha : PE X a (rE C X.K ma)) (hn : ∀ x p, a ≠ .Starred x p) :
    PI X (.Tuple elts kk tpos) (.Call (.Name "enumerate" p) [a] [] pos) (rI C X.K st fun ρ => bnd (ma ρ) fun x => lift (match seen st x with
      | some (.list xs) => some (enumD 0 xs)
      | some (.tuple xs) => some (enumD 0 xs)
      | _ => none)) := by
  refine (pi_enumLT hg hm (pa_cons ha pa_nil (notStar_each hn)) (notStar_each hn)).imp ?_
  rintro σ H Q ⟨ρ, t, G, ds, t', e0, h, k⟩
  obtain ⟨x, t1, h1, hB⟩ := bnd_some h
  obtain ⟨h3, rfl⟩ := lift_some' hB
  refine ⟨ρ, t, G, x, _, e0, h1, fun v1 G1 H1 x1 e1 q1 => ?_⟩
  cases hx : seen st x with
  | none => rw [hx] at h3; cases h3
  | some dx =>
    rw [hx] at h3
    cases dx <;> simp only [reduceCtorEq] at h3
    · rename_i xs
      cases h3
      obtain ⟨p, Gp, rfl, xp, lp, ep, sp, zp, ⟨vs, hp⟩, cp⟩ := stands_of2 (b := false) e0 x1 Le.rfl e1 q1 hx rfl
      exact ⟨p, vs, rfl, .inl ⟨hp, k _ Gp H1 xp ep (wk_enum sp) (by rw [enumD_len]; exact zp)⟩⟩
    · rename_i xs
      cases h3
      obtain ⟨p, Gp, rfl, xp, lp, ep, sp, zp, ⟨vs, hp⟩, cp⟩ := stands_of2 (b := true) e0 x1 Le.rfl e1 q1 hx rfl
      exact ⟨p, vs, rfl, .inr ⟨hp, k _ Gp H1 xp ep (wk_enumT sp) (by rw [enumD_len]; exact zp)⟩⟩
end
end Ev

set_option Elab.async false
set_option linter.all false
set_option maxRecDepth 100000
set_option maxHeartbeats 2000000
/-! EvG4: t[::-1] of a tuple. -/
namespace Ev
open PySem PySem.Spec PyProof.Rows L2 HT
section
variable {prog : Program} {w : World} {A : Around} {E : Value → Shared → Prop} {s : Shared}
theorem adjust_rev (n : Nat) : Builtin.Slice.sliceAdjust none none (-1) (n : Int) = ((n : Int) - 1, -1) := by
  unfold Builtin.Slice.sliceAdjust
  simp
theorem places_rev (n : Nat) : Builtin.Slice.slicePlaces ((n : Int) - 1) (-1) (-1) = n := by
  unfold Builtin.Slice.slicePlaces
  have h1 : ¬ ((-1 : Int) > 0) := by omega
  simp only [h1, if_false]
  rw [show (- -1 : Int) = 1 by decide, Int.ediv_one]
  split
  · omega
  · omega
theorem sliceApplied_rev {sl : Addr} {vs : Value} {n : Nat} {Q : Int × Int × Nat → Shared → Prop} (hs : s.heap.IsSliceOf sl .none .none vs) (ps : IsPart vs (some (-1))) (h : Q ((n : Int) - 1, -1, n) s) : wpAny (model prog w) A (Builtin.Slice.sliceApplied (.ref sl) (pure (n : Int))) Q E s := by
  obtain ⟨os, hos, hcs, hds⟩ := id hs
  unfold Builtin.Slice.sliceApplied Builtin.Slice.sliceFields
  refine wpAny_bind (wpAny_bind (wpAny_field hos hds (x := .none) rfl (wpAny_bind (wpAny_field hos hds (x := .none) rfl (wpAny_bind (wpAny_field hos hds (x := vs) rfl (wpAny_pure ?_)))))))
  refine wpAny_bind (slicePart_ ps ?_)
  show wpAny _ _ (if ((-1 : Int) == 0) = true then _ else _) _ _ s
  rw [if_neg (by decide)]
  refine wpAny_bind (slicePart_none (wpAny_bind (slicePart_none (wpAny_bind (wpAny_pure ?_)))))
  show wpAny _ _ (match Builtin.Slice.sliceAdjust none none (-1) (n : Int) with | (lo, hi) => pure (lo, (-1 : Int), Builtin.Slice.slicePlaces lo hi (-1))) _ _ s
  rw [adjust_rev n]
  show wpAny _ _ (pure ((n : Int) - 1, (-1 : Int), Builtin.Slice.slicePlaces ((n : Int) - 1) (-1) (-1))) _ _ s
  rw [places_rev]
  exact wpAny_pure h
theorem filterMap_ext {α β : Type} {f g : α → Option β} : ∀ {l : List α}, (∀ x ∈ l, f x = g x) → l.filterMap f = l.filterMap g
  | [], _ => rfl
  | x :: l, h => by
    rw [List.filterMap_cons, List.filterMap_cons, h x List.mem_cons_self, filterMap_ext fun y hy => h y (List.mem_cons_of_mem _ hy)]
theorem pick_rev (xs : Array Value) : ((List.range xs.size).filterMap fun (k : Nat) => xs[((xs.size : Int) - 1 + (k : Int) * (-1)).toNat]?).toArray = xs.toList.reverse.toArray := by
  have h := PySem.W.krv_range xs.size
  have e : (fun (k : Nat) => xs[((xs.size : Int) - 1 + (k : Int) * (-1)).toNat]?) = fun (k : Nat) => xs[((xs.size : Int) - 1 - (k : Int)).toNat]? := by
    funext k
    have : (xs.size : Int) - 1 + (k : Int) * (-1) = (xs.size : Int) - 1 - (k : Int) := by omega
    rw [this]
  rw [e]
  have e2 : (List.range xs.size).filterMap (fun (k : Nat) => xs[((xs.size : Int) - 1 - (k : Int)).toNat]?) = ((List.range xs.size).map fun k => xs.size - 1 - k).filterMap (xs[·]?) := by
    rw [List.filterMap_map]
    refine filterMap_ext fun k hk => ?_
    have := List.mem_range.mp hk
    have e3 : ((xs.size : Int) - 1 - (k : Int)).toNat = xs.size - 1 - k := by omega
    rw [e3]
    rfl
  rw [e2, h, List.filterMap_reverse, PySem.W.krv_all]
theorem getItem_tuple_rev {t sl : Addr} {items : Array Value} {vs : Value} {Q : Value → Shared → Prop} (ht : IsTup s.heap t items) (hs : s.heap.IsSliceOf sl .none .none vs) (ps : IsPart vs (some (-1)))
    (h : Q (.ref s.heap.objs.size) { s with heap := s.heap.push { cls := .type "tuple", data := .seq items.toList.reverse.toArray } })
    (hsz : items.size ≤ sizeLine) : wpAny (model prog w) A (getItem (.ref t) (.ref sl)) Q E s := by
  have htake : sizeOk (.seq items.toList.reverse.toArray) := by
    show items.toList.reverse.toArray.size ≤ sizeLine
    simpa using hsz
  obtain ⟨os, hos, hcs, hds⟩ := id hs
  have hTs : s.TypeIs (.ref sl) "slice" := ⟨os, hos, hcs⟩
  unfold getItem
  try with_reducible refine wpAny_holding ?_
  first | refine wpAny_bind (wpAny_pure ?_) | skip
  refine wpAny_bind (wpAny_sequenceKey ht.typeIs (by decide) ?_)
  refine wpAny_bind (wpAny_callSpecial?_slot (name := Str.ofString "__getitem__") ht.typeIs PyProof.Rows.slot_tuple_getitem
    (wpAny_call_entry PyProof.Rows.slot_tuple_getitem ht.typeIs entry_tuple_getitem ?_ (args_tuple_getitem _ _)))
  show wpAny _ _ (Builtin.Tuple.tupleItemsOf (.ref t) >>= _) _ _ s
  refine wpAny_bind (tupleItemsOf_ ht ?_)
  refine wpAny_bind (wpAny_typeOf hTs ?_)
  rw [if_pos (by decide)]
  refine wpAny_bind (sliceApplied_rev hs ps ?_)
  show wpAny _ _ (if (((items.size : Int) - 1) == 0 && (-1 : Int) == 1 && items.size == items.size) = true then _ else _) _ _ s
  rw [if_neg (by rw [show ((-1 : Int) == 1) = false from rfl, Bool.and_false, Bool.false_and]; exact Bool.false_ne_true), pick_rev]
  first
    | exact wpAny_bind (m := Builtin.Tuple.tupleExact _) (wpAny_newObj_type (wpAny_pure ⟨_, rfl, wpAny_pure h⟩) htake)
    | exact wpAny_bind (m := Builtin.Tuple.tupleExact _) (wpAny_newObj_type (wpAny_bind (wpAny_pure (wpAny_pure ⟨_, rfl, wpAny_pure h⟩))) htake)
    | exact wpAny_bind (wpAny_bind (m := Builtin.Tuple.tupleExact _) (wpAny_newObj_type (wpAny_pure (wpAny_pure ⟨_, rfl, wpAny_pure h⟩)) htake))
    | exact wpAny_bind (wpAny_bind (m := Builtin.Tuple.tupleExact _) (wpAny_newObj_type (wpAny_pure ⟨_, rfl, wpAny_pure h⟩) htake))
end
/-! ### x[::-1] of a list, a tuple -/
def tRevLT (K : PySem.W.Frag) (te : TE) : TE := fun σ H Q => te σ H fun x H1 => ∃ a xs, x = .ref a ∧ ((SqL K H1 a xs ∧ ∀ p, H1 p = none → Q (.ref p) (upd H1 p (.lst xs.reverse))) ∨ (SqT K H1 a xs ∧ ∀ p, H1 p = none → Q (.ref p) (upd H1 p (.tup xs.reverse))))
theorem pe_revLT {X : Cx} {e : Expr} {te : TE} {k : Nat} {p1 p2 p3 pos : Pos} (he : PE X e te) : PE X (.Subscript e (.Slice none none (some (.UnaryOp .USub (.Constant (.int 1) k p1) p2)) p3) pos) (tRevLT X.K te) := by
  refine ⟨fun pins s σ H Q I h => ?_⟩
  refine Subscript_ (thn (he.run pins s σ H _ I h) fun v s1 ⟨x, H1, I1, r1, q1⟩ => ?_)
  obtain ⟨a, xs, ex, q⟩ := q1
  subst ex
  cases r1
  have hst : PO X (some (.UnaryOp .USub (.Constant (.int 1) k p1) p2)) (tPart (tUn (rU fun i => .int (-i)) (tC (.int 1)))) := po_some (pe_un un_neg pe_int)
  refine wpAny_Slice (thn (po_none.run pins s1 σ H1 (fun o H2 => o = none ∧ H2 = H1) I1 ⟨rfl, rfl⟩) fun vl s2 ⟨l, H2, I2, pl, el, e2⟩ => ?_)
  subst el e2
  refine thn (po_none.run pins s2 σ H2 (fun o H3 => o = none ∧ H3 = H2) I2 ⟨rfl, rfl⟩) fun vu s3 ⟨u, H3, I3, pu, eu, e3⟩ => ?_
  subst eu e3
  refine thn (hst.run pins s3 σ H3 (fun o H4 => o = some (-1) ∧ H4 = H3) I3 ⟨1, rfl, -1, rfl, rfl, rfl⟩) fun vs s4 ⟨o, H4, I4, ps, eo, e4⟩ => ?_
  subst eo e4
  have I5 : Inv X pins σ H4 { s4 with heap := s4.heap.push { cls := .type "slice", data := .fields #[vl, vu, vs] } } := I4.kept (t' := s4.toks) fun b ob q => Heap.get?_push_of_some _ q
  show wpAny (model X.prog X.w) X.A (subscriptTail e (.Slice none none (some (.UnaryOp .USub (.Constant (.int 1) k p1) p2)) p3) (.ref a) (.ref s4.heap.objs.size)) (EP X pins σ Q) X.xe { s4 with heap := s4.heap.push { cls := .type "slice", data := .fields #[vl, vu, vs] } }
  rcases q with ⟨hx, q⟩ | ⟨hx, q⟩
  · obtain ⟨its, r, ht, hz⟩ := I5.list hx
    have hlen := r.length
    refine tail_any (ops := [.ref a, .ref s4.heap.objs.size]) ht.isList.typeIs (PySem.slot_list_getitem.lookup) ?_ (by with_unfolding_all rfl)
    refine wpAny_getItem_list_slice ht.isList (Heap.IsSliceOf.new _ vl vu vs) pl pu ps (by decide) ?_ (by rw [List.size_toArray]; omega)
    rw [PySem.W.krv_pick]
    refine ⟨.ref _, _, I5.laid (t' := s4.toks) (o := .lst xs.reverse) (fun b ob q => Heap.get?_push_of_some _ q) (Nat.le_refl _) ?_, rfl, q _ (I5.hok.fresh (Nat.le_refl _))⟩
    exact ⟨by rw [List.length_reverse]; exact hz, _, 0, r.reverse, Heap.get?_push_size _ rfl⟩
  · obtain ⟨its, r, ht, hz⟩ := I5.tuple hx
    have hlen := r.length
    cases pl
    cases pu
    refine tail_any (ops := [.ref a, .ref s4.heap.objs.size]) ht.typeIs (PyProof.Rows.slot_tuple_getitem.lookup) ?_ (by with_unfolding_all rfl)
    refine getItem_tuple_rev ht (Heap.IsSliceOf.new _ .none .none vs) ps ?_ (by rw [List.size_toArray]; omega)
    refine ⟨.ref _, _, I5.laid (t' := s4.toks) (o := .tup xs.reverse) (fun b ob q => Heap.get?_push_of_some _ q) (Nat.le_refl _) ?_, rfl, q _ (I5.hok.fresh (Nat.le_refl _))⟩
    exact ⟨by rw [List.length_reverse]; exact hz, _, r.reverse, IsTup.new _ _⟩
section
variable {X : Cx} {C : Option Nat} {a : Expr} {ma : Env → M R} {pos : Pos}
theorem e_rev {k0 : Nat} {p1 p2 p3 : Pos} (ha : PE X a (rE C X.K ma)) : PE X (.Subscript a (.Slice none none (some (.UnaryOp .USub (.Constant (.int 1) k0 p1) p2)) p3) pos) (rE C X.K fun ρ => bnd (ma ρ) fun x => lift (revD x.look)) := by
  refine (pe_revLT ha).imp ?_
  rintro σ H Q ⟨ρ, t, G, r, t', e0, h, k⟩
  obtain ⟨x, t1, h1, hB⟩ := bnd_some h
  obtain ⟨h2, rfl⟩ := lift_some' hB
  refine ⟨ρ, t, G, x, _, e0, h1, fun v G1 H1 x1 e1 q => ?_⟩
  have lk := RE.lk e0 q (Ext.rfl x1.le) e1
  cases hx : x.look <;> rw [hx] at h2 lk <;> simp only [revD, reduceCtorEq] at h2
  · rename_i xs
    cases h2
    obtain ⟨p, vs, rfl, hr, rp, z⟩ := lk.list x1.le
    refine ⟨p, vs, rfl, .inl ⟨hr, ?_⟩⟩
    exact (post_of k x1 e1).lst x1.le rp.reverse (by simpa using z)
  · rename_i xs
    cases h2
    obtain ⟨p, vs, rfl, hr, rp, z⟩ := lk.tuple x1.le
    refine ⟨p, vs, rfl, .inr ⟨x1.le.st hr, ?_⟩⟩
    exact (post_of k x1 e1).tup x1.le rp.reverse (by simpa using z)
end
end Ev

set_option Elab.async false
set_option linter.all false
set_option maxRecDepth 100000
set_option maxHeartbeats 1000000
/-! EvH: targets; comprehensions. -/
namespace Ev
open PySem PySem.Spec PyProof.Rows L2
section
variable {K : PySem.W.Frag} {C : Option Nat} {ρ ρ' : Env} {t t1 t' : Tape} {G H G1 H1 G' H' : Hp} {σ σ' : L2.St}
theorem tad_set {i : Nat} {v : V} {a : Addr} (hC : C ≠ some i) : tad C (σ.set i (some v)) a ↔ tad C σ a := by
  constructor
  · rintro ⟨j, e, h⟩
    refine ⟨j, e, ?_⟩
    rwa [List.getElem?_set_ne fun z => hC (by rw [e, z])] at h
  · rintro ⟨j, e, h⟩
    refine ⟨j, e, ?_⟩
    rw [List.getElem?_set_ne fun z => hC (by rw [e, z])]
    exact h
theorem tad_wipe {vs : List Nat} {a : Addr} (hC : ∀ i, C = some i → i ∉ vs) : tad C (wipe σ vs) a ↔ tad C σ a := by
  constructor
  · rintro ⟨j, e, h⟩
    exact ⟨j, e, by rwa [wipe_out (hC j e)] at h⟩
  · rintro ⟨j, e, h⟩
    exact ⟨j, e, by rwa [wipe_out (hC j e)]⟩
theorem wipeR_length : ∀ vs : List Nat, (wipeR ρ vs).length = ρ.length
  | [] => rfl
  | v :: vs => by unfold wipeR; rw [List.length_set, wipeR_length vs]
theorem wipeR_some {i : Nat} {x : R} : ∀ {vs : List Nat}, (wipeR ρ vs)[i]? = some (some x) → ρ[i]? = some (some x) ∧ i ∉ vs
  | [], h => ⟨h, by simp⟩
  | v :: vs, h => by
    unfold wipeR at h
    by_cases hi : v = i
    · subst hi
      by_cases hv : v < (wipeR ρ vs).length
      · rw [List.getElem?_set_self hv] at h; cases h
      · rw [List.getElem?_eq_none (by simpa using hv)] at h; cases h
    · rw [List.getElem?_set_ne hi] at h
      obtain ⟨h1, h2⟩ := wipeR_some h
      exact ⟨h1, by simp only [List.mem_cons, not_or]; exact ⟨fun e => hi e.symm, h2⟩⟩
theorem wipe_set {i : Nat} {v : Option V} : ∀ {vs : List Nat}, i ∈ vs → wipe (σ.set i v) vs = wipe σ vs
  | [], h => by simp at h
  | w :: vs, h => by
    unfold wipe
    by_cases e : i ∈ vs
    · rw [wipe_set e]
    · have e2 : i = w := by
        rcases List.mem_cons.mp h with h | h
        · exact h
        · exact absurd h e
      subst e2
      have key : ∀ us : List Nat, (wipe (σ.set i v) us).set i none = (wipe σ us).set i none := by
        intro us
        induction us with
        | nil => show (σ.set i v).set i none = σ.set i none; rw [List.set_set]
        | cons u us ih =>
          unfold wipe
          by_cases z : u = i
          · subst z
            rw [List.set_set, List.set_set, ih]
          · rw [List.set_comm _ _ z, List.set_comm _ _ z, ih]
      exact key vs
theorem EnvOk.wipe (e : EnvOk K C ρ t G σ H) {vs : List Nat} (hC : ∀ i, C = some i → i ∉ vs) : EnvOk K C (wipeR ρ vs) t G (wipe σ vs) H where
  le := e.le
  len := by rw [wipeR_length, wipe_length]; exact e.len
  val := fun i d h => by
    obtain ⟨h1, h2⟩ := wipeR_some h
    obtain ⟨v, k1, k2⟩ := e.val i d h1
    exact ⟨v, by rw [wipe_out h2]; exact k1, k2⟩
  own := fun i d h => by
    obtain ⟨h1, h2⟩ := wipeR_some h
    obtain ⟨v, k1, k2⟩ := e.own i d h1
    exact ⟨v, by rw [wipe_out h2]; exact k1, k2⟩
  nob := fun i xs h => e.nob i xs (wipeR_some h).1
  apart := fun i j xs ys a hij h1 h2 h3 h4 => e.apart i j xs ys a hij (wipeR_some h1).1 (wipeR_some h2).1 (wipe_some h3).1 (wipe_some h4).1
  tp1 := fun h => let ⟨a, q⟩ := e.tp1 h; ⟨a, (tad_wipe hC).2 q⟩
  tp2 := fun a h => e.tp2 a ((tad_wipe hC).1 h)
  tp3 := fun a j xs h1 h2 h3 => e.tp3 a j xs ((tad_wipe hC).1 h1) (wipeR_some h2).1 (wipe_some h3).1
theorem get_set {α : Type} {l : List α} {i j : Nat} {x y : α} (h : (l.set i x)[j]? = some y) : (i = j ∧ y = x) ∨ (i ≠ j ∧ l[j]? = some y) := by
  by_cases e : i = j
  · subst e
    by_cases hv : i < l.length
    · rw [List.getElem?_set_self hv] at h
      cases h
      exact .inl ⟨rfl, rfl⟩
    · rw [List.getElem?_eq_none (by simpa using hv)] at h
      cases h
  · rw [List.getElem?_set_ne e] at h
    exact .inr ⟨e, h⟩
theorem EnvOk.setv (e : EnvOk K C ρ t G σ H) {i : Nat} {v : V} {d : D} (hC : C ≠ some i) (r : Rp K G v d) : EnvOk K C (ρ.set i (some (.val d))) t G (σ.set i (some v)) H where
  le := e.le
  len := by rw [List.length_set, List.length_set]; exact e.len
  val := fun j d' h => by
    rcases get_set h with ⟨rfl, hq⟩ | ⟨hi, hq⟩
    · cases hq
      have hl : i < σ.length := by
        rw [← e.len]
        by_cases hv : i < ρ.length
        · exact hv
        · rw [List.getElem?_eq_none (by simpa using hv)] at h
          cases h
      exact ⟨v, List.getElem?_set_self hl, r⟩
    · obtain ⟨w, h1, h2⟩ := e.val j d' hq
      exact ⟨w, by rw [List.getElem?_set_ne hi]; exact h1, h2⟩
  own := fun j xs h => by
    rcases get_set h with ⟨rfl, hq⟩ | ⟨hi, hq⟩
    · cases hq
    · obtain ⟨w, h1, h2⟩ := e.own j xs hq
      exact ⟨w, by rw [List.getElem?_set_ne hi]; exact h1, h2⟩
  nob := fun j xs h => by
    rcases get_set h with ⟨rfl, hq⟩ | ⟨hi, hq⟩
    · cases hq
    · exact e.nob j xs hq
  apart := fun j k xs ys a hjk h1 h2 h3 h4 => by
    rcases get_set h1 with ⟨rfl, q1⟩ | ⟨n1, q1⟩
    · cases q1
    · rcases get_set h2 with ⟨rfl, q2⟩ | ⟨n2, q2⟩
      · cases q2
      · rw [List.getElem?_set_ne n1] at h3
        rw [List.getElem?_set_ne n2] at h4
        exact e.apart j k xs ys a hjk q1 q2 h3 h4
  tp1 := fun h => let ⟨a, q⟩ := e.tp1 h; ⟨a, (tad_set hC).2 q⟩
  tp2 := fun a h => e.tp2 a ((tad_set hC).1 h)
  tp3 := fun a j xs h1 h2 h3 => by
    rcases get_set h2 with ⟨rfl, q2⟩ | ⟨n2, q2⟩
    · cases q2
    · rw [List.getElem?_set_ne n2] at h3
      exact e.tp3 a j xs ((tad_set hC).1 h1) q2 h3
/-- D is no name's own, nor the drawing list -/
structure Apart (C : Option Nat) (D : Addr) (ρ : Env) (σ : L2.St) : Prop where
  own : ∀ (i : Nat) (xs : List PyData), ρ[i]? = some (some (R.own xs)) → σ[i]? ≠ some (some (V.ref D))
  tap : ¬ tad C σ D
theorem Apart.setv {D : Addr} {i : Nat} {v : V} {d : PyData} (p : Apart C D ρ σ) (hC : C ≠ some i) : Apart C D (ρ.set i (some (.val d))) (σ.set i (some v)) where
  own := fun j xs h => by
    rcases get_set h with ⟨rfl, hq⟩ | ⟨hi, hq⟩
    · cases hq
    · rw [List.getElem?_set_ne hi]
      exact p.own j xs hq
  tap := fun h => p.tap ((tad_set hC).1 h)
theorem Apart.wipe {D : Addr} {vs : List Nat} (p : Apart C D ρ σ) (hC : ∀ i, C = some i → i ∉ vs) : Apart C D (wipeR ρ vs) (L2.wipe σ vs) where
  own := fun j xs h => by
    obtain ⟨h1, h2⟩ := wipeR_some h
    rw [wipe_out h2]
    exact p.own j xs h1
  tap := fun h => p.tap ((tad_wipe hC).1 h)
abbrev tD (C : Option Nat) (σ : L2.St) (D : Addr) : Addr → Prop := fun a => tad C σ a ∨ a = D
theorem EnvOk.carry {ta : Addr → Prop} (e : EnvOk K C ρ t G σ H) (x : Ext ta G H G' H') (ht : ∀ a, ta a → tad C σ a ∨ ∀ (i : Nat) (xs : List PyData), ρ[i]? = some (some (R.own xs)) → σ[i]? ≠ some (some (V.ref a))) (h1 : t' ≠ [] → ∃ a, tad C σ a) (h2 : ∀ a, tad C σ a → OwnAt K G' H' a t') : EnvOk K C ρ t' G' σ H' where
  le := x.le
  len := e.len
  val := fun i d h => let ⟨v, h1, h2⟩ := e.val i d h; ⟨v, h1, Rp.mono x.g _ _ h2⟩
  own := fun i xs h => by
    obtain ⟨a, k1, k2⟩ := e.own i xs h
    refine ⟨a, k1, k2.ext x fun z => ?_⟩
    rcases ht a z with z | z
    · exact e.tp3 a i xs z h k1
    · exact z i xs h k1
  nob := e.nob
  apart := e.apart
  tp1 := h1
  tp2 := h2
  tp3 := e.tp3
theorem Ext.updD {ta : Addr → Prop} (x : Ext ta G1 H1 G H) {D : Addr} {o : HO} (hD : ta D) (hg : G D = none) : Ext ta G1 H1 G (upd H D o) :=
  ⟨x.g, fun a u q n => by rw [upd_ne fun z => n (by rw [z]; exact hD)]; exact x.h a u q n, fun a q => by
    by_cases z : a = D
    · rw [z, upd_same]; simp
    · rw [upd_ne z]; exact x.t a q, x.n, fun a u q => by rw [upd_ne (ne_of_none q hg)]; exact x.le a u q⟩
theorem Ext.strip {D : Addr} (x : Ext (tD C σ D) G1 (upd H1 D (.lst [])) G H) (h1 : H1 D = none) : Ext (tad C σ) G1 H1 G H :=
  ⟨x.g, fun a o e n => by
    have hne : a ≠ D := ne_of_none e h1
    exact x.h a o (by rw [upd_ne hne]; exact e) fun z => z.elim n hne, fun a e => by
    have hne : a ≠ D := fun z => e (by rw [z]; exact h1)
    exact x.t a (by rw [upd_ne hne]; exact e), fun a e e' => by
    have hne : a ≠ D := fun z => e (by rw [z]; exact h1)
    exact x.n a (by rw [upd_ne hne]; exact e) e', x.le⟩
/-- an object that was not there before is changed -/
theorem EnvOk.updF (e : EnvOk K C ρ t G σ H) (e1 : EnvOk K C ρ t1 G1 σ H1) {D : Addr} {o : HO} (h1 : H1 D = none) (hg : G D = none) : EnvOk K C ρ t G σ (upd H D o) where
  le := fun a u q => by
    rw [upd_ne (ne_of_none q hg)]
    exact e.le a u q
  len := e.len
  val := e.val
  own := fun i xs h => by
    obtain ⟨a, k1, ⟨g, ⟨vs, k2, r⟩, z⟩⟩ := e.own i xs h
    obtain ⟨b, q1, q2⟩ := e1.own i xs h
    rw [k1] at q1
    cases q1
    exact ⟨a, k1, g, ⟨vs, by rw [upd_ne fun z => q2.there (by rw [z]; exact h1)]; exact k2, r⟩, z⟩
  nob := e.nob
  apart := e.apart
  tp1 := e.tp1
  tp2 := fun a h => by
    obtain ⟨g, ⟨vs, k2, r⟩, z⟩ := e.tp2 a h
    exact ⟨g, ⟨vs, by rw [upd_ne fun z => (e1.tp2 a h).there (by rw [z]; exact h1)]; exact k2, r⟩, z⟩
  tp3 := e.tp3
theorem Ext.updF {ta : Addr → Prop} (x : Ext ta G1 H1 G H) {D : Addr} {o : HO} (h1 : H1 D = none) (hg : G D = none) : Ext ta G1 H1 G (upd H D o) :=
  ⟨x.g, fun a u q n => by rw [upd_ne (ne_of_none q h1)]; exact x.h a u q n, fun a q => by
    by_cases z : a = D
    · rw [z, upd_same]; simp
    · rw [upd_ne z]; exact x.t a q, x.n, fun a u q => by rw [upd_ne (ne_of_none q hg)]; exact x.le a u q⟩
end

/-! ### targets -/
/-- a target: as bindT -/
def rG (C : Option Nat) (K : PySem.W.Frag) (tg : Tgt) : TG := fun v σ H Q => ∃ ρ t G d ρ', EnvOk K C ρ t G σ H ∧ Rp K G v d ∧ bindT tg d ρ = some ρ' ∧
  ∀ σ', EnvOk K C ρ' t G σ' H → (∀ vs, (∀ i ∈ slotsT tg, i ∈ vs) → wipe σ' vs = wipe σ vs) → (∀ a, tad C σ' a ↔ tad C σ a) → (∀ a, Apart C a ρ σ → Apart C a ρ' σ') → Q σ' H
section
variable {X : Cx} {C : Option Nat} {pos : Pos}
theorem g_name {i : Nat} {x : Str} (hN : X.N.Nodup) (hi : X.N[i]? = some x) (hx : Loc X.env.scope x) (hf : X.fn x = true ∨ X.env.scope.names.lookup x = some .local) (hC : C ≠ some i) : PG X (.Name x pos) (rG C X.K (.name i)) := by
  have p := pg_name (pos := pos) hN hi hx hf
  refine ⟨fun pins s σ H v u Q I r h => p.run pins s σ H v u Q I r ?_⟩
  obtain ⟨ρ, t, G, d, ρ', e, rp, hb, k⟩ := h
  cases hb
  exact k _ (e.setv hC rp) (fun vs hvs => wipe_set (hvs i List.mem_cons_self)) (fun a => tad_set hC) fun a p => p.setv hC
/-- several names -/
def rGs (C : Option Nat) (K : PySem.W.Frag) (is : List Nat) : TGs := fun vs σ H Q => ∃ ρ t G ds ρ', EnvOk K C ρ t G σ H ∧ RpAll K G vs ds ∧ setAll is ds ρ = some ρ' ∧
  ∀ σ', EnvOk K C ρ' t G σ' H → (∀ vs, (∀ i ∈ is, i ∈ vs) → wipe σ' vs = wipe σ vs) → (∀ a, tad C σ' a ↔ tad C σ a) → (∀ a, Apart C a ρ σ → Apart C a ρ' σ') → Q σ' H
theorem gs_nil : PGs X [] (rGs C X.K []) := by
  have p := pgs_nil (X := X)
  refine ⟨fun pins s σ H vs us Q I r h => p.run pins s σ H vs us Q I r ?_⟩
  obtain ⟨ρ, t, G, ds, ρ', e, rp, hb, k⟩ := h
  cases rp with
  | nil =>
    cases hb
    exact ⟨rfl, k σ e (fun _ _ => rfl) (fun _ => Iff.rfl) fun _ p => p⟩
  | cons _ _ => cases hb
theorem gs_cons {i : Nat} {is : List Nat} {x : Str} {es : List Expr} (hN : X.N.Nodup) (hi : X.N[i]? = some x) (hx : Loc X.env.scope x) (hf : X.fn x = true ∨ X.env.scope.names.lookup x = some .local) (hC : C ≠ some i) (hr : PGs X es (rGs C X.K is)) : PGs X (.Name x pos :: es) (rGs C X.K (i :: is)) := by
  have p := pgs_cons (pg_name (pos := pos) hN hi hx hf) hr
  refine ⟨fun pins s σ H vs us Q I r h => p.run pins s σ H vs us Q I r ?_⟩
  obtain ⟨ρ, t, G, ds, ρ', e, rp, hb, k⟩ := h
  cases rp with
  | nil => cases hb
  | cons r1 r2 =>
    refine ⟨_, _, rfl, _, t, G, _, ρ', e.setv hC r1, r2, hb, fun σ' e' hw ht hp => k σ' e' (fun vs hvs => ?_) (fun a => (ht a).trans (tad_set hC)) fun a p => hp a (p.setv hC)⟩
    rw [hw vs fun j hj => hvs j (List.mem_cons_of_mem _ hj)]
    exact wipe_set (hvs i List.mem_cons_self)
theorem g_tup {es : List Expr} {is : List Nat} {k0 : Nat} (hc : X.calm = true) (h : PGs X es (rGs C X.K is)) (hn : (assignEach es X.env).length = is.length) (hst : (assignEach es X.env).findIdx? (·.1) = none) : PG X (.Tuple es k0 pos) (rG C X.K (.tup is)) := by
  have hl : ∀ {is : List Nat} {ds : List D} {ρ ρ' : Env}, setAll is ds ρ = some ρ' → ds.length = is.length := by
    intro is
    induction is with
    | nil => intro ds ρ ρ' q; cases ds <;> simp_all [setAll]
    | cons i is ih =>
      intro ds ρ ρ' q
      cases ds with
      | nil => simp [setAll] at q
      | cons d ds => simp only [List.length_cons]; rw [ih q]
  have p := pg_tup (pos := pos) (k := k0) hc h hn hst
  have p2 := pg_lst (pos := pos) (k := k0) hc h hn hst
  refine ⟨fun pins s σ H v u Q I r hw => ?_⟩
  obtain ⟨ρ, t, G, d, ρ', e, rp, hb, k⟩ := hw
  cases d <;> simp only [bindT, items, reduceCtorEq] at hb
  · rename_i xs
    refine p2.run pins s σ H v u Q I r ?_
    cases rp with
    | lst h1 h2 h3 => exact ⟨_, _, rfl, e.le.sl h1, by rw [h2.length]; exact hl hb, ρ, t, G, xs, ρ', e, h2, hb, k⟩
  · rename_i xs
    refine p.run pins s σ H v u Q I r ?_
    cases rp with
    | tup h1 h2 h3 => exact ⟨_, _, rfl, e.le.st h1, by rw [h2.length]; exact hl hb, ρ, t, G, xs, ρ', e, h2, hb, k⟩
end
end Ev

set_option Elab.async false
set_option linter.all false
set_option maxRecDepth 100000
set_option maxHeartbeats 1000000
/-! EvI: comprehensions. -/
namespace Ev
open PySem PySem.Spec PyProof.Rows L2
theorem wipe_set_none {σ : L2.St} {i : Nat} : ∀ (us : List Nat), (wipe (σ.set i none) us) = (wipe σ us).set i none
  | [] => rfl
  | u :: us => by
    unfold wipe
    rw [wipe_set_none us]
    by_cases z : u = i
    · subst z; rw [List.set_set]
    · rw [List.set_comm _ _ z]
theorem wipe_wipe {σ : L2.St} (vs : List Nat) : wipe (wipe σ vs) vs = wipe σ vs := by
  have key : ∀ us : List Nat, (∀ i ∈ us, i ∈ vs) → wipe (wipe σ us) vs = wipe σ vs := by
    intro us
    induction us with
    | nil => intro _; rfl
    | cons u us ih =>
      intro h
      show wipe ((wipe σ us).set u none) vs = _
      rw [wipe_set (h u List.mem_cons_self)]
      exact ih fun i hi => h i (List.mem_cons_of_mem _ hi)
  exact key vs fun _ h => h
theorem PTs.imp {X : Cx} {e : List Expr} {t t' : TT} (h : PTs X e t) (w : ∀ σ H Q, t' σ H Q → t σ H Q) : PTs X e t' := ⟨fun pins s σ H Q I q => h.run pins s σ H Q I (w σ H Q q)⟩
theorem ts_nil {X : Cx} {C : Option Nat} {K : PySem.W.Frag} : PTs X [] (rT C K fun _ => ret (.val (.bool true))) := PTs.imp pts_nil fun σ H Q ⟨ρ, t, G, b, t', e0, h, k⟩ => by
  cases h
  exact k G H (Ext.rfl e0.le) e0
section
variable {K : PySem.W.Frag} {C : Option Nat} {D : Addr}
/-- what a turn's rest is to do: hand on the element(s) -/
def Bod (K : PySem.W.Frag) (C : Option Nat) (D : Addr) (mg : Env → M (List PyData)) (B : L2.St → Hp → (Hp → Prop) → Prop) : Prop :=
  ∀ ρ1 t5 t3 ys acc G4 H4 σ2 Nx, EnvOk K C ρ1 t5 G4 σ2 H4 → OwnAt K G4 H4 D acc → Apart C D ρ1 σ2 → mg ρ1 t5 = some (ys, t3) → acc.length + ys.length ≤ big →
    (∀ G5 H5, Ext (tD C σ2 D) G4 H4 G5 H5 → EnvOk K C ρ1 t3 G5 σ2 H5 → OwnAt K G5 H5 D (acc ++ ys) → Nx H5) → B σ2 H4 Nx
def turnM (tg : Tgt) (vs : List Nat) (mc : Env → M R) (mg : Env → M (List PyData)) (ρ : Env) (d : PyData) : M (List PyData) := bnd (lift (bindT tg d (wipeR ρ vs))) fun ρ1 => bnd (mc ρ1) fun x => bnd (lift (isTrueD x)) fun k => if k then mg ρ1 else ret []
theorem loop_ok {ρ : Env} {σ : L2.St} {t0 t' : Tape} {G0 H0 : Hp} {ds acc0 rest : List PyData} {P : Hp → Hp → Prop} {J : It} {tg : Tgt} {vs : List Nat} {mc : Env → M R} {mg : Env → M (List PyData)} {B : L2.St → Hp → (Hp → Prop) → Prop} {Qd : Hp → Prop}
    (wk : Wk K P J ds) (hP : ∀ G H, Ext (tD C σ D) G0 H0 G H → P G H) (e0 : EnvOk K C ρ t0 G0 σ H0) (o0 : OwnAt K G0 H0 D acc0) (ap : Apart C D ρ σ) (run : loopL (turnM tg vs mc mg ρ) ds t0 = some (rest, t')) (hz : acc0.length + rest.length ≤ big)
    (fin : ∀ G H, Ext (tD C σ D) G0 H0 G H → EnvOk K C ρ t' G σ H → OwnAt K G H D (acc0 ++ rest) → Qd H) (hC : ∀ i, C = some i → i ∉ vs) (hvs : ∀ i ∈ slotsT tg, i ∈ vs) (hB : Bod K C D mg B) :
    ∃ W : Nat → Nat → Hp → Prop, (∃ m, W 0 m H0) ∧ ∀ i m H, W i m H →
      (J.stop i H ∧ Qd H) ∨ (J.go i H ∧ ∃ Nx : Hp → Prop, (∀ H', Nx H' → ∃ m', m' < m ∧ W (i + 1) m' H') ∧ ∀ x H', J.yld i H x H' → rG C K tg x (wipe σ vs) H' fun σ2 H2 => wipe σ2 vs = wipe σ vs ∧ rT C K mc σ2 H2 fun b H3 =>
        if b = true then B σ2 H3 Nx else Nx H3) := by
  refine ⟨fun i m H => m = ds.length - i ∧ i ≤ ds.length ∧ ∃ G t acc r, Ext (tD C σ D) G0 H0 G H ∧ EnvOk K C ρ t G σ H ∧ OwnAt K G H D acc ∧ loopL (turnM tg vs mc mg ρ) (ds.drop i) t = some (r, t') ∧ acc ++ r = acc0 ++ rest,
    ⟨ds.length, rfl, Nat.zero_le _, G0, t0, acc0, rest, Ext.rfl e0.le, e0, o0, run, rfl⟩, ?_⟩
  rintro i m H ⟨rfl, hi, G, t, acc, r, x, e, o, hl, hr⟩
  by_cases hlt : i < ds.length
  · right
    rw [List.drop_eq_getElem_cons hlt] at hl
    obtain ⟨ys, t3, hf, hl⟩ := bnd_some hl
    obtain ⟨zs, t4, hl2, hl3⟩ := bnd_some hl
    obtain ⟨h4, rfl⟩ := ret_some hl3
    subst h4
    have w := (wk i G H (hP G H x)).1 ds[i] (List.getElem?_eq_getElem hlt)
    refine ⟨w.1, fun H' => ds.length - (i + 1) = ds.length - (i + 1) ∧ i + 1 ≤ ds.length ∧ ∃ G t acc r, Ext (tD C σ D) G0 H0 G H' ∧ EnvOk K C ρ t G σ H' ∧ OwnAt K G H' D acc ∧ loopL (turnM tg vs mc mg ρ) (ds.drop (i + 1)) t = some (r, t') ∧ acc ++ r = acc0 ++ rest, fun H' h => ⟨_, by omega, h⟩, fun v H' hy => ?_⟩
    obtain ⟨G', x1, rp⟩ := w.2 v H' hy
    obtain ⟨ρ1, t5, hb, hf2⟩ := bnd_some hf
    obtain ⟨hb', rfl⟩ := lift_some' hb
    obtain ⟨cv, t6, hc, hf3⟩ := bnd_some hf2
    obtain ⟨b, t7, hb2, hf4⟩ := bnd_some hf3
    obtain ⟨hb3, rfl⟩ := lift_some' hb2
    have := isTrue_val hb3
    subst this
    have hlen : acc.length + ys.length ≤ big := by
      have := congrArg List.length hr
      simp only [List.length_append] at this
      omega
    refine ⟨wipeR ρ vs, t5, G', ds[i], ρ1, (e.ext x1).wipe hC, rp, hb', fun σ2 e2 hw ht hp => ⟨by rw [hw vs hvs, wipe_wipe], ?_⟩⟩
    have htt : ∀ a, tad C σ2 a ↔ tad C σ a := fun a => (ht a).trans (tad_wipe hC)
    have apx : Apart C D ρ1 σ2 := hp D (ap.wipe hC)
    have back : ∀ {t8 G8 H8}, Ext (tD C σ D) G0 H0 G8 H8 → Ext (tD C σ2 D) G H G8 H8 → EnvOk K C ρ1 t8 G8 σ2 H8 → EnvOk K C ρ t8 G8 σ H8 := fun {t8 G8 H8} _ z ez =>
      e.carry (z.weak (tb := tD C σ D) fun a za => za.imp (htt a).1 id) (fun a za => za.imp id fun q => by rw [q]; exact ap.own) (fun q => let ⟨a, qa⟩ := ez.tp1 q; ⟨a, (htt a).1 qa⟩) fun a qa => ez.tp2 a ((htt a).2 qa)
    refine ⟨ρ1, t5, G', b, t7, e2, hc, fun G4 H4 x4 e4 => ?_⟩
    have x14 : Ext (tD C σ2 D) G H G4 H4 := x1.pure.trans (x4.weak fun a z => .inl z)
    have w4 : Ext (tD C σ D) G0 H0 G4 H4 := x.trans (x14.weak fun a za => za.imp (htt a).1 id)
    have o4 : OwnAt K G4 H4 D acc := (o.ext x1 fun z => z).ext x4 apx.tap
    cases b with
    | false =>
      obtain ⟨rfl, rfl⟩ := ret_some hf4
      simp only [Bool.false_eq_true, if_false]
      exact ⟨by first | rfl | trivial, hlt, G4, _, acc, zs, w4, back w4 x14 e4, o4, hl2, by simpa using hr⟩
    | true =>
      simp only [if_true]
      refine hB ρ1 _ t3 ys acc G4 H4 σ2 _ e4 o4 apx hf4 hlen fun G5 H5 x5 e5 o5 => ?_
      have x15 := x14.trans x5
      have w5 : Ext (tD C σ D) G0 H0 G5 H5 := w4.trans (x5.weak fun a za => za.imp (htt a).1 id)
      exact ⟨by first | rfl | trivial, hlt, G5, t3, acc ++ ys, zs, w5, back w5 x15 e5, o5, hl2, by rw [← hr, List.append_assoc]⟩
  · left
    have hi2 : i = ds.length := by omega
    subst hi2
    rw [List.drop_length] at hl
    obtain ⟨h4, rfl⟩ := ret_some hl
    subst h4
    rw [List.append_nil] at hr
    subst hr
    exact ⟨(wk ds.length G H (hP G H x)).2 (Nat.le_refl _), fin G H x e o⟩
theorem bod_elt {me : Env → M R} : Bod K C D (fun ρ => bnd (me ρ) fun r => lift (r.fix.map fun y => [y])) fun σ2 H3 Nx => rE C K me σ2 H3 fun y H4 => ∃ acc, H4 D = some (.lst acc) ∧ acc.length < sizeLine ∧ Nx (upd H4 D (.lst (acc ++ [y]))) := by
  intro ρ1 t5 t3 ys acc G4 H4 σ2 Nx e4 o4 ap hm hz k
  obtain ⟨r, t6, h1, h2⟩ := bnd_some hm
  obtain ⟨h3, rfl⟩ := lift_some' h2
  cases hf : r.fix with
  | none => rw [hf] at h3; cases h3
  | some y =>
    rw [hf] at h3
    cases h3
    refine ⟨ρ1, t5, G4, r, _, e4, h1, fun v G5 H5 x5 e5 q => ?_⟩
    obtain ⟨nb, hy⟩ := fixes_spec (rs := [r]) (ds := [y]) (by simp [fixes, hf])
    obtain ⟨G6, x6, l6, rp⟩ := frz_from (vs := [v]) (rs := [r]) G5 x5 Le.rfl (.cons q .nil) nb
    rw [← hy] at rp
    have o6 : OwnAt K G6 H5 D acc := o4.ext x6 ap.tap
    have e6 : EnvOk K C ρ1 t3 G6 σ2 H5 := e4.rebase e5 x6 l6
    obtain ⟨g, ⟨vs, h, rv⟩, z⟩ := o6
    have hl : acc.length + 1 ≤ big := by simpa using hz
    refine ⟨vs, h, by rw [rv.length]; exact big_line hl, ?_⟩
    have x7 : Ext (tD C σ2 D) G4 H4 G6 (upd H5 D (.lst (vs ++ [v]))) := (x6.weak fun a z => .inl z).updD (.inr rfl) g
    refine k G6 _ x7 ?_ ⟨g, ⟨_, upd_same, rv.append rp⟩, by simpa using hl⟩
    refine e4.carry x7 (fun a za => za.imp id fun q => by rw [q]; exact ap.own) e6.tp1 fun a qa => ?_
    obtain ⟨g1, ⟨vs1, k1, r1⟩, z1⟩ := e6.tp2 a qa
    exact ⟨g1, ⟨vs1, by rw [upd_ne fun z => ap.tap (by rw [← z]; exact qa)]; exact k1, r1⟩, z1⟩
/-- no more than one a turn -/
theorem loopL_short {f : PyData → M (List PyData)} (hf : ∀ d t r t', f d t = some (r, t') → r.length ≤ 1) : ∀ {ds : List PyData} {t t' : Tape} {xs : List PyData}, loopL f ds t = some (xs, t') → xs.length ≤ ds.length
  | [], t, t', xs, h => by
    obtain ⟨rfl, _⟩ := ret_some h
    exact Nat.le_refl _
  | d :: ds, t, t', xs, h => by
    obtain ⟨ys, t1, h1, h2⟩ := bnd_some h
    obtain ⟨zs, t2, h3, h4⟩ := bnd_some h2
    obtain ⟨rfl, _⟩ := ret_some h4
    have := hf _ _ _ _ h1
    have := loopL_short hf h3
    simp only [List.length_append, List.length_cons]
    omega
end
section
variable {X : Cx} {C : Option Nat}
theorem lc_of {mi : Env → M (List PyData)} {tg : Tgt} {mc : Env → M R} {mg : Env → M (List PyData)} {vs : List Nat} {fit : List PyData → Option R} {B : Addr → L2.St → Hp → (Hp → Prop) → Prop} (hC : ∀ i, C = some i → i ∉ vs) (hvs : ∀ i ∈ slotsT tg, i ∈ vs) (hB : ∀ D, Bod X.K C D mg (B D))
    (hfit : ∀ ds ρ t xs t' r, ds.length ≤ big → loopL (turnM tg vs mc mg ρ) ds t = some (xs, t') → fit xs = some r → r = .own xs ∧ xs.length ≤ big) :
    ∀ σ H Q, rE C X.K (fun ρ => bnd (mi ρ) fun ds => bnd (loopL (turnM tg vs mc mg ρ) ds) fun xs => lift (fit xs)) σ H Q →
      rI C X.K false mi σ H fun J H1 => ∀ D, H1 D = none → ∃ W : Nat → Nat → Hp → Prop, (∃ m, W 0 m (upd H1 D (.lst []))) ∧ ∀ i m H, W i m H →
  (J.stop i H ∧ Q (.ref D) H) ∨ (J.go i H ∧ ∃ Nx : Hp → Prop, (∀ H', Nx H' → ∃ m', m' < m ∧ W (i + 1) m' H') ∧ ∀ x H', J.yld i H x H' → rG C X.K tg x (wipe σ vs) H' fun σ2 H2 => wipe σ2 vs = wipe σ vs ∧ rT C X.K mc σ2 H2 fun b H3 =>
    if b = true then B D σ2 H3 Nx else Nx H3) := by
  rintro σ H Q ⟨ρ, t, G, r, t', e0, h, k⟩
  obtain ⟨ds, t1, h1, hB1⟩ := bnd_some h
  obtain ⟨xs, t2, h2, hC1⟩ := bnd_some hB1
  obtain ⟨h3, rfl⟩ := lift_some' hC1
  refine ⟨ρ, t, G, ds, t1, e0, h1, fun J G1 H1 x1 e1 wk z D hD => ?_⟩
  obtain ⟨rfl, hz⟩ := hfit ds ρ t1 xs _ r z h2 h3
  have gD : G1 D = none := e1.le.none hD
  have ap : Apart C D ρ σ := ⟨fun i ys h z => by
    obtain ⟨a, q1, q2⟩ := e1.own i ys h
    rw [z] at q1
    cases q1
    exact q2.there hD, fun h => (e1.tp2 D h).there hD⟩
  refine loop_ok (D := D) (acc0 := []) wk (fun G H x => Met.of (x.strip hD)) (e1.ext (Ext.new e1.le hD)) ⟨gD, ⟨[], upd_same, .nil⟩, Nat.zero_le _⟩ ap h2 (by simpa using hz) (fun G2 H2 x e o => ?_) hC hvs (hB D)
  have x2 := x.strip hD
  exact k _ G2 H2 (x1.trans x2) e ⟨D, rfl, x1.fresh hD, o⟩
/-- one clause -/
theorem rd_comp1 {tg : Tgt} {mi : Env → M (List PyData)} {mc me : Env → M R} {vs : List Nat} (hC : ∀ i, C = some i → i ∉ vs) (hvs : ∀ i ∈ slotsT tg, i ∈ vs) : ∀ σ H Q, rE C X.K (fun ρ => bnd (mi ρ) fun ds => bnd (loopL (turnM tg vs mc (fun ρ => bnd (me ρ) fun r => lift (r.fix.map fun y => [y])) ρ) ds) fun xs => lift (some (.own xs))) σ H Q →
    tLc (rI C X.K false mi) (rG C X.K tg) (rT C X.K mc) (rE C X.K me) vs σ H Q := fun σ H Q h => by
  refine lc_of (B := fun D σ2 H3 Nx => rE C X.K me σ2 H3 fun y H4 => ∃ acc, H4 D = some (.lst acc) ∧ acc.length < sizeLine ∧ Nx (upd H4 D (.lst (acc ++ [y])))) hC hvs (fun D => bod_elt) (fun ds ρ t xs t' r z hl hf => ?_) σ H Q h
  cases hf
  refine ⟨rfl, Nat.le_trans (loopL_short (fun d t r t' q => ?_) hl) z⟩
  obtain ⟨ρ1, t1, _, q2⟩ := bnd_some q
  obtain ⟨x, t2, _, q3⟩ := bnd_some q2
  obtain ⟨b, t3, _, q4⟩ := bnd_some q3
  cases b with
  | false => obtain ⟨rfl, _⟩ := ret_some q4; exact Nat.zero_le _
  | true =>
    obtain ⟨r1, t4, _, q5⟩ := bnd_some q4
    obtain ⟨q6, _⟩ := lift_some' q5
    cases hr : r1.fix with
    | none => rw [hr] at q6; cases q6
    | some y => rw [hr] at q6; cases q6; exact Nat.le_refl _
theorem e_comp1 {elt tgE iter : Expr} {ifs : List Expr} {scope : Scope} {own : List (Str × Nat)} {pos : Pos} {mi : Env → M (List PyData)} {tg : Tgt} {mc me : Env → M R} (hc : X.calm = true) (hN : X.N.Nodup) (hi : PI X tgE iter (rI C X.K false mi)) (ok : BlkOk X.N X.env.scope scope own)
    (hg : ∀ (s : Shared) (H : Hp) (A : Addr) (cl : List (Str × Addr)) (fp : List Addr), PG (X.blk s H scope (compEnvC scope cl A X.env) fp) tgE (rG C X.K tg)) (ht : ∀ (s : Shared) (H : Hp) (A : Addr) (cl : List (Str × Addr)) (fp : List Addr), PTs (X.blk s H scope (compEnvC scope cl A X.env) fp) ifs (rT C X.K mc))
    (he : ∀ (s : Shared) (H : Hp) (A : Addr) (cl : List (Str × Addr)) (fp : List Addr), PE (X.blk s H scope (compEnvC scope cl A X.env) fp) elt (rE C X.K me)) (hs : ∀ x, foldedSetIterable iter X.env x = pure x) (hC : ∀ i, C = some i → i ∉ own.map (·.2)) (hvs : ∀ i ∈ slotsT tg, i ∈ own.map (·.2)) :
    PE X (.ListComp elt [⟨tgE, iter, ifs, 0⟩] scope pos) (rE C X.K fun ρ => bnd (mi ρ) fun ds => bnd (loopL (turnM tg (own.map (·.2)) mc (fun ρ => bnd (me ρ) fun r => lift (r.fix.map fun y => [y])) ρ) ds) fun xs => lift (some (.own xs))) :=
  (pe_lc hc hN hi ok hg ht he hs).imp (rd_comp1 hC hvs)
theorem s_comp1 {j : Nat} {y : Str} {py spos : Pos} {elt tgE iter : Expr} {ifs : List Expr} {scope : Scope} {own : List (Str × Nat)} {pos : Pos} {mi : Env → M (List PyData)} {tg : Tgt} {mc me : Env → M R} (hc : X.calm = true) (hN : X.N.Nodup) (hy : X.N[j]? = some y) (hyl : X.env.scope.names.lookup y = some .local)
    (hsw : swapsWith (.ListComp elt [⟨tgE, iter, ifs, 0⟩] scope pos) (some (.Name y py)) spos.line X.env = pure true) (hi : PI X tgE iter (rI C X.K false mi)) (ok : BlkOk X.N X.env.scope scope own)
    (hg : ∀ (s : Shared) (H : Hp) (A : Addr) (cl : List (Str × Addr)) (fp : List Addr), PG (X.blk s H scope (compEnvC scope cl A X.env) fp) tgE (rG C X.K tg)) (ht : ∀ (s : Shared) (H : Hp) (A : Addr) (cl : List (Str × Addr)) (fp : List Addr), PTs (X.blk s H scope (compEnvC scope cl A X.env) fp) ifs (rT C X.K mc))
    (he : ∀ (s : Shared) (H : Hp) (A : Addr) (cl : List (Str × Addr)) (fp : List Addr), PE (X.blk s H scope (compEnvC scope cl A X.env) fp) elt (rE C X.K me)) (hs : ∀ x, foldedSetIterable iter X.env x = pure x) (hC : ∀ i, C = some i → i ∉ own.map (·.2)) (hvs : ∀ i ∈ slotsT tg, i ∈ own.map (·.2)) :
    PS X (.Assign [.Name y py] (.ListComp elt [⟨tgE, iter, ifs, 0⟩] scope pos) spos) (tAsg (rE C X.K fun ρ => bnd (mi ρ) fun ds => bnd (loopL (turnM tg (own.map (·.2)) mc (fun ρ => bnd (me ρ) fun r => lift (r.fix.map fun y => [y])) ρ) ds) fun xs => lift (some (.own xs))) (gName j)) :=
  (ps_setLc hc hN hy hyl hsw hi ok hg ht he hs).imp fun D σ H h => rd_comp1 (X := X) hC hvs σ H _ h
/-- the second clause's loop -/
theorem bod_for {K : PySem.W.Frag} {D : Addr} {mi : Env → M (List PyData)} {tg : Tgt} {mc : Env → M R} {mg : Env → M (List PyData)} {vs : List Nat} {B : L2.St → Hp → (Hp → Prop) → Prop} (hC : ∀ i, C = some i → i ∉ vs) (hvs : ∀ i ∈ slotsT tg, i ∈ vs) (hB : Bod K C D mg B) :
    Bod K C D (fun ρ => bnd (mi ρ) fun ds => loopL (turnM tg vs mc mg ρ) ds) fun σ2 H3 Nx => rI C K true mi σ2 H3 fun J1 H4 => ∃ W1 : Nat → Nat → Hp → Prop, (∃ m, W1 0 m H4) ∧ ∀ j k H, W1 j k H →
      (J1.stop j H ∧ Nx H) ∨ (J1.go j H ∧ ∃ Nx1 : Hp → Prop, (∀ H', Nx1 H' → ∃ k', k' < k ∧ W1 (j + 1) k' H') ∧ ∀ x H', J1.yld j H x H' → rG C K tg x (wipe σ2 vs) H' fun σ3 H5 => wipe σ3 vs = wipe σ2 vs ∧ rT C K mc σ3 H5 fun b H6 =>
        if b = true then B σ3 H6 Nx1 else Nx1 H6) := by
  intro ρ1 t5 t3 ys acc G4 H4 σ2 Nx e4 o4 ap hm hz k
  obtain ⟨ds, t6, h1, h2⟩ := bnd_some hm
  refine ⟨ρ1, t5, G4, ds, t6, e4, h1, fun J G5 H5 x5 e5 wk _ => ?_⟩
  refine loop_ok (D := D) wk (fun G H x => ⟨x.g, x.le⟩) e5 (o4.ext x5 ap.tap) ap h2 hz (fun G6 H6 x6 e6 o6 => ?_) hC hvs hB
  exact k G6 H6 ((x5.weak fun a z => .inl z).trans x6) e6 o6
theorem rd_comp2 {tg tg1 : Tgt} {mi mi1 : Env → M (List PyData)} {mc mc1 me : Env → M R} {vs vs1 : List Nat} (hv : ∀ i ∈ vs1, i ∈ vs) (hC : ∀ i, C = some i → i ∉ vs) (hvs : ∀ i ∈ slotsT tg, i ∈ vs) (hvs1 : ∀ i ∈ slotsT tg1, i ∈ vs1) : ∀ σ H Q, rE C X.K (fun ρ => bnd (mi ρ) fun ds => bnd (loopL (turnM tg vs mc (fun ρ => bnd (mi1 ρ) fun ds => loopL (turnM tg1 vs1 mc1 (fun ρ => bnd (me ρ) fun r => lift (r.fix.map fun y => [y])) ρ) ds) ρ) ds) fun xs => lift (if xs.length ≤ big then some (.own xs) else none)) σ H Q →
    tLc2 (rI C X.K false mi) (rG C X.K tg) (rT C X.K mc) (rI C X.K true mi1) (rG C X.K tg1) (rT C X.K mc1) (rE C X.K me) vs vs1 σ H Q := fun σ H Q h => by
  refine lc_of (B := fun D σ2 H3 Nx => rI C X.K true mi1 σ2 H3 fun J1 H4 => ∃ W1 : Nat → Nat → Hp → Prop, (∃ m, W1 0 m H4) ∧ ∀ j k H, W1 j k H →
      (J1.stop j H ∧ Nx H) ∨ (J1.go j H ∧ ∃ Nx1 : Hp → Prop, (∀ H', Nx1 H' → ∃ k', k' < k ∧ W1 (j + 1) k' H') ∧ ∀ x H', J1.yld j H x H' → rG C X.K tg1 x (wipe σ2 vs1) H' fun σ3 H5 => wipe σ3 vs1 = wipe σ2 vs1 ∧ rT C X.K mc1 σ3 H5 fun b H6 =>
        if b = true then (rE C X.K me σ3 H6 fun y H4 => ∃ acc, H4 D = some (.lst acc) ∧ acc.length < sizeLine ∧ Nx1 (upd H4 D (.lst (acc ++ [y])))) else Nx1 H6)) hC hvs (fun D => bod_for (fun i hi hm => hC i hi (hv i hm)) hvs1 bod_elt) (fun ds ρ t xs t' r z hl hf => ?_) σ H Q h
  split at hf
  · cases hf
    rename_i hz
    exact ⟨rfl, hz⟩
  · cases hf
theorem e_comp2 {elt tgE iter tgE1 iter1 : Expr} {ifs ifs1 : List Expr} {scope : Scope} {own : List (Str × Nat)} {vs1 : List Nat} {pos : Pos} {mi mi1 : Env → M (List PyData)} {tg tg1 : Tgt} {mc mc1 me : Env → M R} (hc : X.calm = true) (hN : X.N.Nodup) (hi : PI X tgE iter (rI C X.K false mi)) (ok : BlkOk X.N X.env.scope scope own) (hv : ∀ i ∈ vs1, i ∈ own.map (·.2))
    (hg : ∀ (s : Shared) (H : Hp) (A : Addr) (cl : List (Str × Addr)) (fp : List Addr), PG (X.blk s H scope (compEnvC scope cl A X.env) fp) tgE (rG C X.K tg)) (ht : ∀ (s : Shared) (H : Hp) (A : Addr) (cl : List (Str × Addr)) (fp : List Addr), PTs (X.blk s H scope (compEnvC scope cl A X.env) fp) ifs (rT C X.K mc))
    (hi1 : ∀ (s : Shared) (H : Hp) (A : Addr) (cl : List (Str × Addr)) (fp : List Addr), PI (X.blk s H scope (compEnvC scope cl A X.env) fp) tgE1 iter1 (rI C X.K true mi1))
    (hg1 : ∀ (s : Shared) (H : Hp) (A : Addr) (cl : List (Str × Addr)) (fp : List Addr), PG (X.blk s H scope (compEnvC scope cl A X.env) fp) tgE1 (rG C X.K tg1)) (ht1 : ∀ (s : Shared) (H : Hp) (A : Addr) (cl : List (Str × Addr)) (fp : List Addr), PTs (X.blk s H scope (compEnvC scope cl A X.env) fp) ifs1 (rT C X.K mc1))
    (he : ∀ (s : Shared) (H : Hp) (A : Addr) (cl : List (Str × Addr)) (fp : List Addr), PE (X.blk s H scope (compEnvC scope cl A X.env) fp) elt (rE C X.K me)) (hs : ∀ x, foldedSetIterable iter X.env x = pure x) (hs1 : ∀ env x, foldedSetIterable iter1 env x = pure x) (hC : ∀ i, C = some i → i ∉ own.map (·.2)) (hvs : ∀ i ∈ slotsT tg, i ∈ own.map (·.2)) (hvs1 : ∀ i ∈ slotsT tg1, i ∈ vs1) :
    PE X (.ListComp elt [⟨tgE, iter, ifs, 0⟩, ⟨tgE1, iter1, ifs1, 0⟩] scope pos) (rE C X.K fun ρ => bnd (mi ρ) fun ds => bnd (loopL (turnM tg (own.map (·.2)) mc (fun ρ => bnd (mi1 ρ) fun ds => loopL (turnM tg1 vs1 mc1 (fun ρ => bnd (me ρ) fun r => lift (r.fix.map fun y => [y])) ρ) ds) ρ) ds) fun xs => lift (if xs.length ≤ big then some (.own xs) else none)) :=
  (pe_lc2 hc hN hi ok hv hg ht hi1 hg1 ht1 he hs hs1).imp (rd_comp2 hv hC hvs hvs1)
theorem s_comp2 {j : Nat} {y : Str} {py spos : Pos} {elt tgE iter tgE1 iter1 : Expr} {ifs ifs1 : List Expr} {scope : Scope} {own : List (Str × Nat)} {vs1 : List Nat} {pos : Pos} {mi mi1 : Env → M (List PyData)} {tg tg1 : Tgt} {mc mc1 me : Env → M R} (hc : X.calm = true) (hN : X.N.Nodup) (hy : X.N[j]? = some y) (hyl : X.env.scope.names.lookup y = some .local)
    (hsw : swapsWith (.ListComp elt [⟨tgE, iter, ifs, 0⟩, ⟨tgE1, iter1, ifs1, 0⟩] scope pos) (some (.Name y py)) spos.line X.env = pure true) (hi : PI X tgE iter (rI C X.K false mi)) (ok : BlkOk X.N X.env.scope scope own) (hv : ∀ i ∈ vs1, i ∈ own.map (·.2))
    (hg : ∀ (s : Shared) (H : Hp) (A : Addr) (cl : List (Str × Addr)) (fp : List Addr), PG (X.blk s H scope (compEnvC scope cl A X.env) fp) tgE (rG C X.K tg)) (ht : ∀ (s : Shared) (H : Hp) (A : Addr) (cl : List (Str × Addr)) (fp : List Addr), PTs (X.blk s H scope (compEnvC scope cl A X.env) fp) ifs (rT C X.K mc))
    (hi1 : ∀ (s : Shared) (H : Hp) (A : Addr) (cl : List (Str × Addr)) (fp : List Addr), PI (X.blk s H scope (compEnvC scope cl A X.env) fp) tgE1 iter1 (rI C X.K true mi1))
    (hg1 : ∀ (s : Shared) (H : Hp) (A : Addr) (cl : List (Str × Addr)) (fp : List Addr), PG (X.blk s H scope (compEnvC scope cl A X.env) fp) tgE1 (rG C X.K tg1)) (ht1 : ∀ (s : Shared) (H : Hp) (A : Addr) (cl : List (Str × Addr)) (fp : List Addr), PTs (X.blk s H scope (compEnvC scope cl A X.env) fp) ifs1 (rT C X.K mc1))
    (he : ∀ (s : Shared) (H : Hp) (A : Addr) (cl : List (Str × Addr)) (fp : List Addr), PE (X.blk s H scope (compEnvC scope cl A X.env) fp) elt (rE C X.K me)) (hs : ∀ x, foldedSetIterable iter X.env x = pure x) (hs1 : ∀ env x, foldedSetIterable iter1 env x = pure x) (hC : ∀ i, C = some i → i ∉ own.map (·.2)) (hvs : ∀ i ∈ slotsT tg, i ∈ own.map (·.2)) (hvs1 : ∀ i ∈ slotsT tg1, i ∈ vs1) :
    PS X (.Assign [.Name y py] (.ListComp elt [⟨tgE, iter, ifs, 0⟩, ⟨tgE1, iter1, ifs1, 0⟩] scope pos) spos) (tAsg (rE C X.K fun ρ => bnd (mi ρ) fun ds => bnd (loopL (turnM tg (own.map (·.2)) mc (fun ρ => bnd (mi1 ρ) fun ds => loopL (turnM tg1 vs1 mc1 (fun ρ => bnd (me ρ) fun r => lift (r.fix.map fun y => [y])) ρ) ds) ρ) ds) fun xs => lift (if xs.length ≤ big then some (.own xs) else none)) (gName j)) :=
  (ps_setLc2 hc hN hy hyl hsw hi ok hv hg ht hi1 hg1 ht1 he hs hs1).imp fun D σ H h => rd_comp2 (X := X) hv hC hvs hvs1 σ H _ h
end
end Ev

set_option Elab.async false
set_option linter.all false
set_option maxRecDepth 100000
set_option maxHeartbeats 2000000
/-! EvS: sorted(xs, key=f), f a def of the text. -/
namespace Ev
open PySem PySem.Spec PyProof.Rows L2
/-! ### the order -/
theorem ordAll_nilL (o : COp) (ys : List D) : ordAll o [] ys = ordN o 0 ys.length := by
  rw [ordAll]
  · rfl
  · intro x xs y ys h; cases h
theorem ordAll_nilR (o : COp) (xs : List D) : ordAll o xs [] = ordN o xs.length 0 := by
  rw [ordAll]
  · rfl
  · intro x xs y ys _ h; cases h
mutual
theorem dlt_ord : ∀ x y : D, alk x y = true → PySem.W.dataLt x y = ordD .lt x y
  | .none, .none, _ => by simp [ordD, PySem.W.dataLt, PySem.W.keyToks, PyProof.Rows.lexLt]
  | .int i, .int j, _ => by rw [PySem.W.dataLt_int]; rfl
  | .str x, .str y, _ => by rw [PySem.W.dataLt_str]; rfl
  | .list xs, .list ys, h => by
    rw [PySem.W.dataLt_list, dlt_ordAll xs ys (by rw [alk] at h; exact h), ordD]
  | .tuple xs, .tuple ys, h => by
    rw [PySem.W.dataLt_tuple, dlt_ordAll xs ys (by rw [alk] at h; exact h), ordD]
  | .bool _, y, h => by cases y <;> simp [alk] at h
  | .dict _, y, h => by cases y <;> simp [alk] at h
  | .none, .bool _, h | .none, .int _, h | .none, .str _, h | .none, .list _, h | .none, .tuple _, h | .none, .dict _, h => by simp [alk] at h
  | .int _, .none, h | .int _, .bool _, h | .int _, .str _, h | .int _, .list _, h | .int _, .tuple _, h | .int _, .dict _, h => by simp [alk] at h
  | .str _, .none, h | .str _, .bool _, h | .str _, .int _, h | .str _, .list _, h | .str _, .tuple _, h | .str _, .dict _, h => by simp [alk] at h
  | .list _, .none, h | .list _, .bool _, h | .list _, .int _, h | .list _, .str _, h | .list _, .tuple _, h | .list _, .dict _, h => by simp [alk] at h
  | .tuple _, .none, h | .tuple _, .bool _, h | .tuple _, .int _, h | .tuple _, .str _, h | .tuple _, .list _, h | .tuple _, .dict _, h => by simp [alk] at h
theorem dlt_ordAll : ∀ xs ys : List D, alkAll xs ys = true → PyProof.Rows.lexLt PyProof.Rows.itemOrd (PySem.W.keyToksAll xs) (PySem.W.keyToksAll ys) = ordAll .lt xs ys
  | [], [], _ => by rw [ordAll_nilL]; rfl
  | [], y :: ys, _ => by
    rw [ordAll_nilL, PySem.W.keyToksAll, PySem.W.toks_all_cons]
    rfl
  | x :: xs, [], _ => by
    rw [ordAll_nilR, PySem.W.keyToksAll, PySem.W.toks_all_cons]
    rfl
  | x :: xs, y :: ys, h => by
    rw [alkAll, Bool.and_eq_true] at h
    rw [PySem.W.dataLt_cons (alk_alike x y h.1), dlt_ordAll xs ys h.2, dlt_ord x y h.1, ordAll]
end
/-! ### the keys -/
/-- the same heap without one object -/
def hole (h : Heap) (k : Addr) : Heap := h.update k fun o => { o with data := .freed }
theorem hole_none (h : Heap) (k : Addr) : (hole h k).get? k = none := by
  obtain ⟨objs, l⟩ := h
  show (match (objs.modify k _)[k]? with | some ⟨_, _, .freed, _⟩ => none | o => o) = none
  rw [Array.getElem?_modify]
  simp only [if_true]
  cases objs[k]? with
  | none => rfl
  | some o => rfl
theorem hole_old {h : Heap} {k b : Addr} (hb : b ≠ k) : (hole h k).get? b = h.get? b := (Heap.SameBut.update h k _).2 b hb
theorem hole_to {h : Heap} {k b : Addr} {o : Obj} (e : (hole h k).get? b = some o) : b ≠ k ∧ h.get? b = some o := by
  by_cases hb : b = k
  · subst hb; rw [hole_none] at e; cases e
  · exact ⟨hb, by rw [hole_old hb] at e; exact e⟩
section
variable {X : Cx} {P : List (Addr × Obj)} {σ : L2.St} {H : Hp} {s : Shared} {k : Nat} {fa : Addr} {fd : FuncData} {ps : List Str} {x : Str} {Φ : Call}
/-- f(u), within sorted -/
theorem key_turn {A : Around} {E : Value → Shared → Prop} (F : FnOk X.prog X.w X.K X.mg X.base CX0 k fa fd ps (spEv X.K Φ x 1 false)) (hr : Room k A) (hb : Binds X.K fd ps []) (I : Inv X P σ H s) (he : Env0 X.prog X.w X.K X.mg X.base A X.stack s H)
    {G : Hp} {v : V} {u : Value} {d kd : PyData} {r : R} {t' : Tape} (l : Le G H) (rp : Rp X.K G v d) (rv : RelV v u) (hc : Φ x [d] [] = some (r, t')) (hk : r.fix = some kd) :
    wpAny (model X.prog X.w) A (call (.ref fa) [u]) (fun ku s' => ∃ kv H' G', Inv X P σ H' s' ∧ RelV kv ku ∧ Ext no G H G' H' ∧ Rp X.K G' kv kd) E s := by
  have sp : spEv X.K Φ x 1 false [v] H (fun kv H' => ∃ G', Ext no G H G' H' ∧ Rp X.K G' kv kd) E0 := by
    refine ⟨G, [d], r, t', rfl, l, .cons rp .nil, hc, fun kv G' H' x1 rr => ?_⟩
    cases r with
    | val d2 => cases hk; exact ⟨G', x1, rr⟩
    | bor _ => cases hk
    | own xs =>
      cases hk
      obtain ⟨a, rfl, ha, o⟩ := rr
      obtain ⟨og, ⟨vs, oh, orp⟩, oz⟩ := o
      exact ⟨L2.upd G' a (.lst vs), x1.frz ha og oh, .lst (.inl (.inl upd_same)) (RpAll.mono (Le.upd og) _ _ orp) oz⟩
  have rvs : Vals ([v] ++ []) ([u] ++ []) := .cons rv .nil
  have hl : ([u] ++ ([] : List Value)).length = ps.length := F.len _ _ _ _ sp
  refine wpAny_call (codeAny_mono (F.run A X.stack s H ⟨[u], []⟩ ([u] ++ []) ([v] ++ []) _ E0 hr he (hb s [u] I.kIn hl) rvs sp) fun r s' hq => ?_)
  cases r with
  | error e => exact False.elim hq
  | ok fl =>
    cases fl with
    | ret ku =>
      obtain ⟨kv, H', I', r', G', x1, rp'⟩ := I.after hq
      exact ⟨kv, H', G', I', r', x1, rp'⟩
    | next => exact False.elim hq
    | brk => exact False.elim hq
    | cont => exact False.elim hq
theorem keysOf_len {Φ : Call} {x : Str} : ∀ {xs ks : List D}, keysOf Φ x xs = some ks → ks.length = xs.length
  | [], ks, h => by cases h; rfl
  | d :: ds, ks, h => by
    unfold keysOf at h
    cases hc : Φ x [d] [] with
    | none => rw [hc] at h; cases h
    | some p =>
      rw [hc] at h
      cases hf : p.1.fix with
      | none => simp only [hf] at h; cases h
      | some kd =>
        cases hk : keysOf Φ x ds with
        | none => simp only [hf, hk] at h; cases h
        | some ks' =>
          simp only [hf, hk] at h
          cases h
          simp [keysOf_len hk]
theorem keysOf_at {Φ : Call} {x : Str} : ∀ {xs ks : List D} {j : Nat} {d : D}, keysOf Φ x xs = some ks → xs[j]? = some d → ∃ r t' kd, Φ x [d] [] = some (r, t') ∧ r.fix = some kd ∧ ks[j]? = some kd
  | [], ks, j, d, h, e => by simp at e
  | d0 :: ds, ks, j, d, h, e => by
    unfold keysOf at h
    cases hc : Φ x [d0] [] with
    | none => rw [hc] at h; cases h
    | some p =>
      rw [hc] at h
      cases hf : p.1.fix with
      | none => simp only [hf] at h; cases h
      | some kd =>
        cases hk : keysOf Φ x ds with
        | none => simp only [hf, hk] at h; cases h
        | some ks' =>
          simp only [hf, hk] at h
          cases h
          cases j with
          | zero => simp at e; subst e; exact ⟨p.1, p.2, kd, hc, hf, rfl⟩
          | succ j => exact keysOf_at (j := j) hk (by simpa using e)
theorem each_reads (I : Inv X P σ H s) {G : Hp} (l : Le G H) : ∀ {kv : List V} {kd : List D} {ku : List Value}, RpAll X.K G kv kd → Vals kv ku → okAll 60 kd = true → PySem.W.EachIs (fun u d => ∃ as, Reads s.heap u d as) ku kd
  | _, _, _, .nil, h, _ => by cases h; exact .nil
  | _, _, _, .cons r t, h, e => by
    cases h with
    | cons h1 h2 =>
      rw [okAll, Bool.and_eq_true] at e
      exact .cons (Dp.reads I _ _ _ (Rp.dp 60 _ _ e.1 (Rp.mono l _ _ r)) h1) (each_reads I l t h2 e.2)
theorem pins_in {Q : List (Addr × Obj)} (I : Inv X (P ++ Q) σ H s) : Inv X P σ H s := I.pins_of fun p hp => I.pin p (List.mem_append_right _ (List.mem_append_left _ hp))
theorem not_cell (I : Inv X P σ H s) {b : Addr} {o : Obj} (e : s.heap.get? b = some o) (d : ∀ v, o.data ≠ .cell v) : ∀ y c, X.env.cells.lookup y = some c → c ≠ b := by
  rintro y c hc rfl
  obtain ⟨v, o', e', d'⟩ := I.cell y c hc
  rw [e] at e'
  cases e'
  exact d v d'
def kObj (xs : Array Value) (e : Nat) : Obj := seqObj "list" xs e
theorem vals_snoc {xs : List V} {us : List Value} {x : V} {u : Value} (h : Vals xs us) (r : RelV x u) : Vals (xs ++ [x]) (us ++ [u]) := h.append (.cons r .nil)
theorem rows_rp {K : PySem.W.Frag} {G : Hp} : ∀ {l : List (D × V × D)}, (∀ b ∈ l, Rp K G b.2.1 b.2.2) → RpAll K G (l.map (·.2.1)) (l.map (·.2.2))
  | [], _ => .nil
  | b :: l, h => .cons (h b List.mem_cons_self) (rows_rp fun c hc => h c (List.mem_cons_of_mem _ hc))
theorem rows_each : ∀ {ks : List D} {vs : List V} {us : List Value} {ds : List D}, Vals vs us → vs.length = ds.length → ks.length = vs.length → PySem.W.EachIs (fun u (b : D × V × D) => RelV b.2.1 u) us (ks.zip (vs.zip ds))
  | [], [], _, [], h, _, _ => by cases h; exact .nil
  | [], v :: vs, _, _, _, _, h => by simp at h
  | k :: ks, [], _, _, _, _, h => by simp at h
  | k :: ks, v :: vs, _, [], _, h, _ => by simp at h
  | [], [], _, _ :: _, _, h, _ => by simp at h
  | k :: ks, v :: vs, _, d :: ds, h, h2, h3 => by
    cases h with
    | cons a b => exact .cons a (rows_each b (by simpa using h2) (by simpa using h3))
theorem each_vals : ∀ {l : List (D × V × D)} {us : List Value}, PySem.W.EachIs (fun u (b : D × V × D) => RelV b.2.1 u) us l → Vals (l.map (·.2.1)) us
  | [], _, h => by cases h; exact .nil
  | b :: l, _, h => by cases h with | cons a b => exact .cons a (each_vals b)
theorem zip_rp {K : PySem.W.Frag} {G : Hp} : ∀ {ks : List D} {vs : List V} {ds : List D}, RpAll K G vs ds → ∀ b ∈ ks.zip (vs.zip ds), Rp K G b.2.1 b.2.2
  | [], _, _, _, b, h => by simp at h
  | k :: ks, _, _, .nil, b, h => by simp at h
  | k :: ks, _, _, .cons r t, b, h => by
    simp only [List.zip_cons_cons, List.mem_cons] at h
    rcases h with rfl | h
    · exact r
    · exact zip_rp t b h
theorem zip_fst : ∀ {ks : List D} {vs : List V} {ds : List D}, vs.length = ds.length → ks.length = vs.length → (ks.zip (vs.zip ds)).map (·.1) = ks
  | ks, vs, ds, h, h2 => by rw [List.map_fst_zip]; rw [List.length_zip]; omega
theorem zip_key : ∀ {ks : List D} {vs : List V} {ds : List D}, vs.length = ds.length → ks.length = vs.length → (ks.zip (vs.zip ds)).map (fun b => (b.1, b.2.2)) = ks.zip ds
  | [], _, _, _, _ => by simp
  | k :: ks, [], _, _, h => by simp at h
  | k :: ks, v :: vs, [], h, _ => by simp at h
  | k :: ks, v :: vs, d :: ds, h, h2 => by
    simp only [List.zip_cons_cons, List.map_cons]
    rw [zip_key (by simpa using h) (by simpa using h2)]
theorem sorts_alike {ks : List D} (h : sortsOk ks = true) : PySem.W.AllAlike ks ∧ PySem.W.Sortable ks ∧ okAll 60 ks = true ∧ ∀ a ∈ ks, ∀ b ∈ ks, alk a b = true := by
  unfold sortsOk at h
  simp only [Bool.and_eq_true, List.all_eq_true] at h
  obtain ⟨⟨h1, h2⟩, h3⟩ := h
  refine ⟨fun a ha b hb => alk_alike _ _ (h1 a ha b hb), ?_, h2, h1⟩
  by_cases ht : ∃ xs, PyData.tuple xs ∈ ks
  · obtain ⟨xs, hx⟩ := ht
    refine .inl fun d hd => ?_
    have e := h1 _ hx d hd
    have e3 := h3 d hd
    cases d <;> simp [alk] at e
    rename_i ys
    cases ys with
    | nil => cases e3
    | cons y ys => exact ⟨y, ys, rfl⟩
  · refine .inr fun d hd => ⟨fun z => ?_, fun xs z => ht ⟨xs, z ▸ hd⟩⟩
    have := h3 d hd
    rw [z] at this
    cases this
theorem okAll_depth : ∀ {ks : List D} {n : Nat}, okAll n ks = true → ∀ d ∈ ks, d.depth ≤ n
  | [], _, _, d, h => by simp at h
  | k :: ks, n, e, d, h => by
    rw [okAll, Bool.and_eq_true] at e
    rcases List.mem_cons.mp h with rfl | h
    · exact (ok_lay n _ e.1).2
    · exact okAll_depth e.2 d h
theorem key_rest {A : Around} {E : Value → Shared → Prop} {a kS : Addr} {e1 : Nat} {vs : List Value} {vsV : List V} {xs ks : List D} {G : Hp} {R : PySem.Fin → Shared → Prop}
    (F : FnOk X.prog X.w X.K X.mg X.base CX0 k fa fd ps (spEv X.K Φ x 1 false)) (hr : Room k A) (hb : Binds X.K fd ps []) (hA : ∀ (P : List (Addr × Obj)) (H : Hp) (s : Shared), Inv X P σ H s → Env0 X.prog X.w X.K X.mg X.base A X.stack s H)
    (I : Inv X (P ++ [(kS, kObj #[] 0), (a, kObj #[] e1)]) σ H s) (l : Le G H) (rv : Vals vsV vs) (rp : RpAll X.K G vsV xs) (hk : keysOf Φ x xs = some ks) (so : sortsOk ks = true) (hz : xs.length ≤ sizeLine)
    (b1 : X.s_0.heap.objs.size ≤ kS) (b2 : X.s_0.heap.objs.size ≤ a) (hka : kS ≠ a) (hP : ∀ p ∈ X.pn ++ P, p.1 ≠ kS ∧ p.1 ≠ a)
    (h : ∀ s' H' G' outV, Inv X P σ (L2.upd H' a (.lst outV)) s' → Ext no G H G' H' → H' a = none → RpAll X.K G' outV ((sortK (ks.zip xs)).map (·.2)) → outV.length = xs.length → R (.done (.ret .none)) s') :
    wpAny (model X.prog X.w) A (ksk_rest a (.ref fa) false vs.toArray e1 (.ref kS)) R E s := by
  have hl1 := rp.length
  have hl2 := rv.length
  have hl3 := keysOf_len hk
  unfold ksk_rest
  refine wpAny_bind (wpAny_rule ?_)
  first
    | rw [List.forIn_toArray]
    | (rw [← Array.forIn_toList]; simp only [List.toList_toArray])
    | rw [← Array.forIn_toList]
  refine wpAny_bind (ksk_fold (fun i s' => ∃ H' G' kA e ksV, Inv X (P ++ [(kS, kObj kA e), (a, kObj #[] e1)]) σ H' s' ∧ Ext no G H G' H' ∧ Vals ksV kA.toList ∧ RpAll X.K G' ksV (ks.take i)) vs 0 s
    ⟨H, G, #[], 0, [], I, Ext.rfl l, .nil, by rw [List.take_zero]; exact .nil⟩ (fun j u s' hu hJ => ?_) fun s' hJ => ?_)
  · obtain ⟨H', G', kA, e, ksV, I', x1, kv, kr⟩ := hJ
    rw [Nat.zero_add] at kr ⊢
    have hj : j < vs.length := (List.getElem?_eq_some_iff.mp hu).1
    obtain ⟨d, hd⟩ : ∃ d, xs[j]? = some d := ⟨_, List.getElem?_eq_getElem (by omega)⟩
    obtain ⟨v, hv, rvd⟩ := rp.get hd
    obtain ⟨u', hu', ru⟩ := rv.get hv
    rw [hu] at hu'
    cases hu'
    obtain ⟨r, t', kd, hc, hf, hkj⟩ := keysOf_at hk hd
    refine wpAny_bind (wpAny_attempt (wpAny_mono (key_turn F hr hb I' (hA _ _ _ I') x1.le (Rp.mono x1.g _ _ rvd) ru hc hf) (fun ku s2 hq => ?_) fun _ _ z => z))
    obtain ⟨kv2, H2, G2, I2, rk, x2, rp2⟩ := hq
    obtain ⟨nk, nH, nL, nf, nc⟩ := I2.pin (kS, kObj kA e) (by simp)
    obtain ⟨na, aH, aL, af, ac⟩ := I2.pin (a, kObj #[] e1) (by simp)
    have sz : kA.size ≤ xs.length := by
      have q1 : ksV.length = kA.size := kv.length.trans Array.length_toList
      have q2 := kr.length
      rw [← q1, q2, List.length_take]
      omega
    have I3 : Inv X P σ H2 s2 := pins_in I2
    obtain ⟨c2, hc2⟩ : ∃ c2, (s2.heap.update kS (Obj.mapSeq (·.push ku))).get? kS = some (kObj (kA.push ku) c2) := ⟨_, get?_update_seq nk (·.push ku)⟩
    have sb := Heap.SameBut.update s2.heap kS (Obj.mapSeq (·.push ku))
    dsimp only
    refine wpAny_bind (listUpdate_at nk rfl ?_ (Nat.le_trans sz hz) (Nat.le_trans (Nat.le_of_eq (Array.size_push ..)) (Nat.succ_le_succ (Nat.le_trans sz hz))))
    refine wpAny_pure ⟨rfl, H2, G2, kA.push ku, c2, ksV ++ [kv2], ?_, x1.trans x2, ?_, ?_⟩
    · have I4 := I3.turned (t' := s2.toks) (fun b o hb q => (sb.2 b hb).trans q) nH nL (.inr b1) (not_cell I3 nk nc) (fun p hp => (hP p hp).1)
      refine I4.pins_of fun p hp => ?_
      rcases List.mem_append.mp hp with hp | hp
      · exact I4.pin p (List.mem_append_right _ hp)
      · simp only [List.mem_cons, List.not_mem_nil, or_false] at hp
        rcases hp with rfl | rfl
        · exact ⟨hc2, nH, nL, nf, fun v z => by cases z⟩
        · exact ⟨(sb.2 a (Ne.symm hka)).trans na, aH, aL, af, ac⟩
    · rw [Array.toList_push]
      exact vals_snoc kv rk
    · rw [List.take_add_one, hkj]
      exact (RpAll.mono x2.g _ _ kr).append (.cons rp2 .nil)
  · obtain ⟨H', G', kA, e, ksV, I', x1, kv, kr⟩ := hJ
    rw [Nat.zero_add, List.take_of_length_le (by omega)] at kr
    obtain ⟨nk, nH, nL, nf, nc⟩ := I'.pin (kS, kObj kA e) (by simp)
    obtain ⟨na, aH, aL, af, ac⟩ := I'.pin (a, kObj #[] e1) (by simp)
    obtain ⟨hal, hsk, h60, halk⟩ := sorts_alike so
    have hkr := each_reads I' x1.le kr kv h60
    have hsz : kA.size = vs.length := by
      have q1 : ksV.length = kA.size := kv.length.trans Array.length_toList
      have q2 := kr.length
      omega
    refine wpAny_bind (listItems_at nk rfl ?_)
    refine PySem.W.keyH_end (κ := PySem.W.dataKind s'.heap ks) (h₁ := hole s'.heap kS) (fun b o hb q => (hole_to q).2) (hole_none _ _) nk na hka (PySem.W.SortsAt.data hkr hal hsk fun d hd => ?_) hsz (by omega) fun h' tk c kp hD => ?_
    · have q1 := hr.un
      have q2 := okAll_depth h60 d hd
      omega
    · have hR := rows_each (ks := ks) rv (ds := xs) hl1 (by omega)
      have ko : PySem.W.KeyedOut false ((ks.zip (vsV.zip xs)).map (·.1)) vs (PySem.W.sortVals (PySem.W.dataKind s'.heap ks) false kA.toList vs) := by
        rw [zip_fst hl1 (by omega)]
        exact ⟨s'.heap, kA.toList, hal, rfl, hkr⟩
      have hE := PySem.W.keyedOut_each (fun b : D × V × D => b.1) ko hR
      have le_eq : ∀ p ∈ ks.zip (vsV.zip xs), ∀ q ∈ ks.zip (vsV.zip xs), PySem.W.dataLe false (fun b : D × V × D => b.1) p q = !ltD q.1 p.1 := fun p hp q hq => by
        rw [PySem.W.dataLe_eq]
        show (!PySem.W.dataLt q.1 p.1) = _
        rw [dlt_ord _ _ (halk _ (List.of_mem_zip hq).1 _ (List.of_mem_zip hp).1)]
      have e2 : ((ks.zip (vsV.zip xs)).mergeSort (PySem.W.dataLe false fun b : D × V × D => b.1)).map (·.2.2) = (sortK (ks.zip xs)).map (·.2) := by
        unfold sortK
        rw [← zip_key (vs := vsV) hl1 (by omega), ← List.map_mergeSort (r := PySem.W.dataLe false fun b : D × V × D => b.1) (f := fun b : D × V × D => (b.1, b.2.2)) le_eq, List.map_map]
        rfl
      have mem : ∀ b ∈ (ks.zip (vsV.zip xs)).mergeSort (PySem.W.dataLe false fun b : D × V × D => b.1), Rp X.K G' b.2.1 b.2.2 := fun b hb =>
        Rp.mono x1.g _ _ (zip_rp rp b ((List.mergeSort_perm _ _).mem_iff.mp hb))
      have rpo := rows_rp mem
      rw [e2] at rpo
      have vo := each_vals hE
      have I3 : Inv X P σ H' s' := pins_in I'
      have kp2 : ∀ b o, b ∉ [kS, a] → s'.heap.get? b = some o → h'.get? b = some o := fun b o hb q => by
        simp only [List.mem_cons, List.not_mem_nil, or_false, not_or] at hb
        exact kp b o hb.2 (by rw [hole_old hb.1]; exact q)
      have nt : ∀ b u, H' b = some u → b ∉ [kS, a] := fun b u q hb => by
        simp only [List.mem_cons, List.not_mem_nil, or_false] at hb
        rcases hb with rfl | rfl
        · rw [nH] at q; cases q
        · rw [aH] at q; cases q
      have upn : ∀ b u, H' b = some u → ∀ o, L2.upd H' a o b = some u := fun b u q o => by
        rw [upd_ne (fun z => by subst z; rw [aH] at q; cases q)]
        exact q
      have lenO : (((ks.zip (vsV.zip xs)).mergeSort (PySem.W.dataLe false fun b : D × V × D => b.1)).map (·.2.1)).length = xs.length := by
        rw [List.length_map, List.length_mergeSort, List.length_zip, List.length_zip]
        omega
      refine h _ H' G' _ ?_ x1 aH rpo lenO
      refine I3.call (ch := [kS, a]) (g' := s'.gens) (d' := s'.drawn) (t' := tk) ⟨fun b o q _ _ hx => kp2 b o hx q, fun b o q _ _ hx => ⟨o.slots, kp2 b o hx q⟩, fun b o q n hx => ?_, fun b o q hx => ⟨o, kp2 b o hx q⟩, fun b xs q => upn b _ q _, fun b o u q => upn b _ q _, fun b ps q => ⟨#[], by rw [upn b _ q _]; simp⟩⟩ (fun b u q => ?_) I3.bare fun b hb => ?_
      · simp only [List.mem_cons, List.not_mem_nil, or_false, not_or] at hx
        rw [upd_ne hx.2]
        exact n
      · by_cases hb : b = a
        · subst hb
          rw [upd_same] at q
          cases q
          exact ⟨by rw [lenO]; exact hz, _, c, vo, hD⟩
        · rw [upd_ne hb] at q
          refine (I3.hok b u q).stay (fun c v hc r => kp2 c v ?_ r) (fun c r => upn c _ r _) fun c ys r => upn c _ r _
          rcases hc with rfl | hc
          · exact nt _ _ q
          · exact nt _ _ hc
      · simp only [List.mem_cons, List.not_mem_nil, or_false] at hb
        rcases hb with rfl | rfl
        · exact ⟨.inr b1, nL, not_cell I3 nk nc, fun p hp => (hP p hp).1⟩
        · exact ⟨.inr b2, aL, not_cell I3 na ac, fun p hp => (hP p hp).2⟩
def rSrt (K : PySem.W.Frag) (Φ : Call) (x : Str) (fa : Addr) : List V → List V → Hp → VK → Prop := fun vs zs H Q => ∃ G v d r, Le G H ∧ vs = [v] ∧ zs = [.ref fa] ∧ Lk K G H v d ∧ srtD (keysOf Φ x) d = some r ∧ Post K G H r Q
theorem cr_srt (F : FnOk X.prog X.w X.K X.mg X.base CX0 k fa fd ps (spEv X.K Φ x 1 false)) (hr : Room k X.A.in1.in1) (hb : Binds X.K fd ps []) : CallRK X (.builtin "sorted") [Str.ofString "key"] (rSrt X.K Φ x fa) := by
  intro pins s σ H vs zs us ws Q I r rz h
  obtain ⟨G, v, d, o, l, rfl, rfl, lk, hs, post⟩ := h
  obtain ⟨w1, rfl, e1⟩ := vals1 rz
  have e1 : w1 = Value.ref fa := e1
  subst e1
  cases d with
  | list xs =>
    obtain ⟨a, vsV, rfl, sl, rp, hlen⟩ := lk.list l
    obtain rfl := Vals.ref1 r
    obtain ⟨its, rv, hl, hz⟩ := I.list sl
    have hs : ((keysOf Φ x xs).bind fun ks => if sortsOk ks then some (R.own ((sortK (ks.zip xs)).map (·.2))) else none) = some o := hs
    cases hk : keysOf Φ x xs with
    | none => rw [hk] at hs; cases hs
    | some ks =>
      rw [hk] at hs
      simp only [Option.bind_some] at hs
      split at hs
      · rename_i so
        cases hs
        have hlen1 := rp.length
        have hlen2 := rv.length
        have hz2 : xs.length ≤ sizeLine := by rw [← hlen1]; exact hz
        refine PySem.W.sorted_of_sort hl.isList (by omega) (ksk_s1 _ _) (fun _ => ksk_l1 _ _) fun E' => ?_
        show wpAny (model X.prog X.w) X.A.in1.in1 (Builtin.«list.sort» ⟨[.ref (s.heap.objs.size + 1)], [(Str.ofString "key", .ref fa)]⟩) _ _ _
        rw [ksk_t1]
        have ho : (PySem.W.copyHeap s.heap its).get? (s.heap.objs.size + 1) = some (seqObj "list" its.toArray 0) := PySem.W.copyHeap_at s.heap its
        have ha : s.heap.objs.size + 1 < (PySem.W.copyHeap s.heap its).objs.size := Heap.lt_size ho
        obtain ⟨e1, ho1⟩ : ∃ e1, ((PySem.W.copyHeap s.heap its).update (s.heap.objs.size + 1) (Obj.mapSeq fun _ => (#[] : Array Value))).get? (s.heap.objs.size + 1) = some (seqObj "list" #[] e1) := ⟨_, get?_update_seq ho fun _ => #[]⟩
        have hkS : (((PySem.W.copyHeap s.heap its).update (s.heap.objs.size + 1) (Obj.mapSeq fun _ => (#[] : Array Value))).push (seqObj "tuple" its.toArray 0)).objs.size = (PySem.W.copyHeap s.heap its).objs.size + 1 := by rw [size_push', Heap.size_update]
        unfold ksk_tree
        refine wpAny_bind (listItems_at ho rfl ?_)
        refine wpAny_bind (listUpdate_at ho rfl ?_ (by rw [List.size_toArray]; omega) (Nat.zero_le _))
        refine wpAny_bind (seqEpoch_at ho1 rfl ?_)
        refine wpAny_bind (wpAny_newTuple ?_ (by show its.length ≤ _; omega))
        refine wpAny_bind (wpAny_newList ?_ (Nat.zero_le _))
        refine wpAny_holding ?_
        have old : ∀ b o, s.heap.get? b = some o → ((((PySem.W.copyHeap s.heap its).update (s.heap.objs.size + 1) (Obj.mapSeq fun _ => (#[] : Array Value))).push (seqObj "tuple" its.toArray 0)).push (seqObj "list" #[] 0)).get? b = some o := fun b o q => by
          have hb : b < s.heap.objs.size := Heap.lt_size q
          exact Heap.get?_push_of_some _ (Heap.get?_push_of_some _ ((Heap.get?_update_ne _ _ _ _ (Nat.ne_of_lt (Nat.lt_succ_of_lt hb))).trans (PySem.W.copyHeap_old q)))
        have I1 : Inv X pins σ H { s with heap := (((PySem.W.copyHeap s.heap its).update (s.heap.objs.size + 1) (Obj.mapSeq fun _ => (#[] : Array Value))).push (seqObj "tuple" its.toArray 0)).push (seqObj "list" #[] 0) } := I.kept (t' := s.toks) old
        have fresh : ∀ b, s.heap.objs.size ≤ b → H b = none ∧ b ≠ X.env.locals ∧ b ∉ X.fs ∧ X.s_0.heap.objs.size ≤ b := fun b hb =>
          ⟨I.hok.fresh hb, Nat.ne_of_gt (Nat.lt_of_lt_of_le I.lt hb), I.nofs hb, Nat.le_trans I.sz hb⟩
        have hbig : s.heap.objs.size + 1 < (((PySem.W.copyHeap s.heap its).update (s.heap.objs.size + 1) (Obj.mapSeq fun _ => (#[] : Array Value))).push (seqObj "tuple" its.toArray 0)).objs.size := by rw [hkS]; omega
        obtain ⟨f1, f2, f3, f4⟩ := fresh (s.heap.objs.size + 1) (Nat.le_succ _)
        obtain ⟨k1, k2, k3, k4⟩ := fresh (((PySem.W.copyHeap s.heap its).update (s.heap.objs.size + 1) (Obj.mapSeq fun _ => (#[] : Array Value))).push (seqObj "tuple" its.toArray 0)).objs.size (by omega)
        refine key_rest (P := pins) (G := G) (H := H) (kS := (((PySem.W.copyHeap s.heap its).update (s.heap.objs.size + 1) (Obj.mapSeq fun _ => (#[] : Array Value))).push (seqObj "tuple" its.toArray 0)).objs.size) F hr hb (fun P H s I => I.env0.in1.in1) (I1.pins_of fun p hp => ?_) l rv rp hk so hz2 k4 f4 (Nat.ne_of_gt hbig) (fun p hp => ?_) fun s' H' G' outV I2 x1 hn rpo ho2 => ⟨rfl, .ref _, _, I2, rfl, ?_⟩
        · rcases List.mem_append.mp hp with hp | hp
          · exact I1.pin p (List.mem_append_right _ hp)
          · simp only [List.mem_cons, List.not_mem_nil, or_false] at hp
            rcases hp with rfl | rfl
            · exact ⟨Heap.get?_push_size _ rfl, k1, k2, k3, fun v z => by cases z⟩
            · exact ⟨Heap.get?_push_of_some _ (Heap.get?_push_of_some _ ho1), f1, f2, f3, fun v z => by cases z⟩
        · obtain ⟨q, _⟩ := I.pin p hp
          have q2 := Heap.lt_size q
          exact ⟨Nat.ne_of_lt (Nat.lt_trans (Nat.lt_trans q2 (Nat.lt_succ_self _)) hbig), Nat.ne_of_lt (Nat.lt_trans q2 (Nat.lt_succ_self _))⟩
        · refine post (.ref _) G' _ (x1.trans (Ext.new x1.le hn)) ⟨_, rfl, f1, x1.le.none hn, ⟨outV, upd_same, rpo⟩, ?_⟩
          rw [← rpo.length, ho2]
          exact hlen
      · cases hs
  | _ => cases hs
theorem e_srt {C : Option Nat} {a : Expr} {ma : Env → M R} {p p2 p3 pos : Pos} (F : FnOk X.prog X.w X.K X.mg X.base CX0 k fa fd ps (spEv X.K Φ x 1 false)) (hr : Room k X.A.in1.in1) (hb : Binds X.K fd ps []) (hg : Gl X "sorted") (hm : X.mg "sorted" = none) (hgx : Gl X x) (hmx : X.mg x = some (.ref fa)) (hdx : (x == ("__debug__" : Str)) = false)
    (ha : PE X a (rE C X.K ma)) (ns : ∀ y p, a ≠ .Starred y p) : PE X (.Call (.Name "sorted" p) [a] [⟨some (Str.ofString "key"), .Name x p2, p3⟩] pos) (rE C X.K fun ρ => bnd (ma ρ) fun y => lift (srtD (keysOf Φ x) y.look)) := by
  have e1 : starEach [a] X.env = [(false, eval a X.env)] := notStar_each (es := []) ns
  refine (pe_callBK (e := a) (es := []) (cr_srt F hr hb) hg hm (by decide +kernel) (pa_cons ha pa_nil (hs := notStar_each ns)) (pk_cons (pe_glob (v := .ref fa) hgx hmx rfl hdx) pk_nil) (by decide +kernel) (by decide +kernel) (by rw [e1]; rfl) (by rw [e1]; rfl) (by rfl) (by rfl) (by rfl)).imp ?_
  rintro σ H Q ⟨ρ, t, G, r, t', e0, h, kk⟩
  obtain ⟨y, t1, h1, h⟩ := bnd_some h
  obtain ⟨h2, rfl⟩ := lift_some' h
  exact ⟨ρ, t, G, y, _, e0, h1, fun v G1 H1 x1 e1 q1 => ⟨G1, v, y.look, r, x1.le, rfl, rfl, RE.lk e0 q1 (Ext.rfl x1.le) e1, h2, post_of kk x1 e1⟩⟩
end
end Ev

set_option Elab.async false
set_option linter.all false
set_option maxRecDepth 100000
set_option maxHeartbeats 2000000
/-! EvS2: displayed dicts; enumerate of a tuple. -/
namespace Ev
open PySem PySem.Spec PyProof.Rows L2
def trsD (C : Option Nat) (K : PySem.W.Frag) (Φ : Call) (Γ : Str → Option D) : List Str → Ts → List (TE × TE)
  | k :: ks, .cons t ts => (tC (.str k), rE C K (ev Φ Γ t)) :: trsD C K Φ Γ ks ts
  | _, _ => []
def lenD : List Str → Ts → Bool
  | [], .nil => true
  | _ :: ks, .cons _ ts => lenD ks ts
  | _, _ => false
section
variable {K : PySem.W.Frag} {C : Option Nat} {Φ : Call} {Γ : Str → Option D} {ρ : Env} {σ : L2.St}
theorem tpairs_ok : ∀ (ts : Ts) (ks : List Str) {t t' : Tape} {G H : Hp} {rs : List R} {Q : List (V × V) → Hp → Prop}, lenD ks ts = true → EnvOk K C ρ t G σ H → evs Φ Γ ts ρ t = some (rs, t') →
    (∀ vs G' H', Ext (tad C σ) G H G' H' → EnvOk K C ρ t' G' σ H' → REs K H G' H' ρ σ vs rs → Q ((ks.map V.str).zip vs) H') → tPairs (trsD C K Φ Γ ks ts) σ H Q
  | .nil, [], t, t', G, H, rs, Q, _, e0, h, k => by
    rw [evs] at h
    obtain ⟨rfl, rfl⟩ := ret_some h
    exact k [] G H (Ext.rfl e0.le) e0 .nil
  | .nil, _ :: _, _, _, _, _, _, _, hl, _, _, _ => nomatch hl
  | .cons _ _, [], _, _, _, _, _, _, hl, _, _, _ => nomatch hl
  | .star _ _, [], _, _, _, _, _, _, hl, _, _, _ => nomatch hl
  | .star _ _, _ :: _, _, _, _, _, _, _, hl, _, _, _ => nomatch hl
  | .cons a ts, kk :: ks, t, t', G, H, rs, Q, hl, e0, h, k => by
    rw [evs] at h
    obtain ⟨x, t1, h1, h⟩ := bnd_some h
    obtain ⟨xs, t2, h2, h⟩ := bnd_some h
    obtain ⟨rfl, rfl⟩ := ret_some h
    show tC (.str kk) σ H fun x H1 => rE C K (ev Φ Γ a) σ H1 fun y H2 => tPairs (trsD C K Φ Γ ks ts) σ H2 fun ps H3 => Q ((x, y) :: ps) H3
    refine ⟨ρ, t, G, x, t1, e0, h1, fun v1 G1 H1 x1 e1 r1 => tpairs_ok ts ks (by simpa [lenD] using hl) e1 h2 fun vs G2 H2 x2 e2 r2 => ?_⟩
    exact k (v1 :: vs) G2 H2 (x1.trans x2) e2 (.cons (RE.next e0 r1 x2) (REs.from x1 r2))
theorem putK_new {k : Key} {v : V} {kvs : List (Key × V)} (h : k ∉ kvs.map (·.1)) : putK kvs k v = kvs ++ [(k, v)] := by
  unfold putK
  rw [if_neg]
  intro z
  obtain ⟨kv, hm, he⟩ := List.any_eq_true.mp z
  exact h (List.mem_map.mpr ⟨kv, hm, of_decide_eq_true he⟩)
theorem mergeK_new : ∀ {more kvs : List (Key × V)}, (kvs.map (·.1) ++ more.map (·.1)).Nodup → mergeK kvs more = kvs ++ more
  | [], kvs, _ => by simp [mergeK]
  | p :: r, kvs, h => by
    have h1 : p.1 ∉ kvs.map (·.1) := fun hm => by
      rw [List.nodup_append] at h
      exact h.2.2 _ hm _ (by simp) rfl
    show mergeK (putK kvs p.1 p.2) r = _
    rw [putK_new h1, mergeK_new (by simpa using h)]
    simp
theorem rpkv_of {G : Hp} : ∀ {ks : List Str} {vs : List V} {ds : List D} {kvs : List (D × D)}, RpAll K G vs ds → dctD ks ds = some kvs → (∀ k ∈ ks, k.length ≤ big) → RpKv K G ((ks.map Sum.inr).zip vs) kvs ∧ ks.length = vs.length
  | [], _, _, kvs, .nil, e, _ => by cases e; exact ⟨.nil, rfl⟩
  | [], _, _, kvs, .cons _ _, e, _ => by cases e
  | k :: ks, _, _, kvs, .nil, e, _ => by cases e
  | k :: ks, _, _, kvs, .cons (v := v) (vs := vs) (d := d) (ds := ds) r t, e, hk => by
    have e : ((dctD ks ds).map fun r => (PyData.str k, d) :: r) = some kvs := e
    obtain ⟨kv, h1, rfl⟩ := Option.map_eq_some_iff.mp e
    obtain ⟨h2, h3⟩ := rpkv_of t h1 fun k' hk' => hk k' (List.mem_cons_of_mem _ hk')
    exact ⟨.cons r h2 (hk k List.mem_cons_self), by simp [h3]⟩
end
section
variable {X : Cx} {C : Option Nat} {Φ : Call} {Γ : Str → Option D} {pos : Pos}
theorem e_dct {ks : List Str} {es : Ts} {keys : List (Option Expr)} {values : List Expr} (hp : PPs X pos keys values (trsD C X.K Φ Γ ks es)) (hl : lenD ks es = true) (hall : keys.all (·.isSome) = true) (hlen : keys.length = values.length) (hkl : keys.length = ks.length) (h0 : ks ≠ []) (h15 : ks.length ≤ 15) (hn : ks.Nodup) (hk : ∀ k ∈ ks, k.length ≤ big) :
    PE X (.Dict keys values pos) (rE C X.K fun ρ => bnd (evs Φ Γ es ρ) fun rs => lift ((fixes rs).bind fun ds => (dctD ks ds).bind fun kvs => if kvs.length ≤ 15 then some (.val (.dict kvs)) else none)) := by
  refine (pe_disp hp hall hlen (fun z => h0 (List.length_eq_zero_iff.mp (by rw [← hkl, z]; rfl))) (by omega)).imp ?_
  rintro σ H Q ⟨ρ, t, G, r, t', e0, h, k⟩ p hpn
  obtain ⟨rs, t1, h1, h⟩ := bnd_some h
  obtain ⟨h2, rfl⟩ := lift_some' h
  cases hf : fixes rs with
  | none => rw [hf] at h2; cases h2
  | some ds =>
    rw [hf] at h2
    simp only [Option.bind_some] at h2
    cases hd : dctD ks ds with
    | none => rw [hd] at h2; cases h2
    | some kvs =>
      rw [hd] at h2
      simp only [Option.bind_some] at h2
      split at h2
      · rename_i hz
        cases h2
        obtain ⟨nb, rfl⟩ := fixes_spec hf
        have x0 : Ext no G H G (L2.upd H p (.dK [])) := Ext.new e0.le hpn
        refine tpairs_ok es ks hl (e0.ext x0) h1 fun vs G1 H1 x1 e1 r1 => ?_
        obtain ⟨G2, x2, l2, rp⟩ := frz_from G1 x1 Le.rfl r1 nb
        have x3 : Ext (tad C σ) G H G2 H1 := x0.pure.trans x2
        have gp : G p = none := e0.le.none hpn
        have g2p : G2 p = none := x2.n p (by rw [upd_same]; simp) gp
        have ntp : ¬ tad C σ p := fun z => (e0.tp2 p z).there hpn
        have hp1 : H1 p = some (.dK []) := x1.h p _ upd_same ntp
        obtain ⟨rk, hkl2⟩ := rpkv_of rp hd hk
        have hvl : ((ks.map Sum.inr : List Key).zip vs).map (·.1) = ks.map Sum.inr := by rw [List.map_fst_zip]; simp [hkl2]
        refine ⟨hp1, (ks.map Sum.inr).zip vs, ?_, by rw [List.length_zip, List.length_map]; omega, ?_⟩
        · rw [List.zip_map_left, List.zip_map_left, List.map_map]
          rfl
        · have hn2 : (ks.map (Sum.inr : Str → Key)).Nodup := List.pairwise_map.mpr (List.Pairwise.imp (fun {a b} (hab : a ≠ b) (e : (Sum.inr a : Key) = Sum.inr b) => hab (Sum.inr.inj e)) hn)
          rw [mergeK_new (by rw [hvl]; simpa using hn2)]
          rw [List.nil_append]
          have x4 : Ext (tad C σ) G H (L2.upd G2 p (.dK ((ks.map Sum.inr).zip vs))) (L2.upd H1 p (.dK ((ks.map Sum.inr).zip vs))) := by
            refine ⟨x3.g.trans (Le.upd g2p), fun a o e n => ?_, fun a e => ?_, fun a e e' => ?_, fun a o e => ?_⟩
            · rw [upd_ne (ne_of_none e hpn)]
              exact x3.h a o e n
            · have : a ≠ p := fun z => e (z ▸ hpn)
              rw [upd_ne this]
              exact x3.t a e
            · have : a ≠ p := fun z => e (z ▸ hpn)
              rw [upd_ne this]
              exact x3.n a e e'
            · by_cases z : a = p
              · subst z
                rw [upd_same] at e ⊢
                exact e
              · rw [upd_ne z] at e ⊢
                exact x3.le a o e
          have e2 : EnvOk X.K C ρ _ G2 σ H1 := (e0.ext x0).rebase e1 x2 l2
          have e3 := e2.updF e0 (o := .dK ((ks.map Sum.inr).zip vs)) hpn g2p
          have e4 := e0.rebase e3 x4 (Le.upd g2p)
          refine k (.ref p) _ _ x4 e4 ?_
          exact .dct upd_same (RpKv.mono (Le.upd g2p) _ _ rk) (by simp only [big]; omega)
      · cases h2
end
end Ev

set_option Elab.async false
set_option linter.all false
set_option maxRecDepth 100000
set_option maxHeartbeats 4000000
/-! EvS3: sorted(set(xs)), xs a list of tuples of whole numbers, few of them unlike. -/
namespace Ev
open PySem PySem.Spec PyProof.Rows L2
abbrev Rows := List (Addr × List Int)
/-- no more than 62 unlike ones -/
def FewR (rows : Rows) : Prop := ∀ L : Rows, (∀ p ∈ L, p ∈ rows) → (L.map (·.2)).Nodup → L.length + 1 < 64
section
variable {prog : Program} {w : World} {A : Around} {E : Value → Shared → Prop} {s : Shared}
/-- a turn of the walk: one more item is put in -/
theorem put_one {rows L : Rows} {i : Nat} {p : Addr × List Int} {S : Addr} {es : Array (Int × Value)} {ep : Nat} {tb : SetTable} {Q : Bool → Shared → Prop} (few : FewR rows) (got : Got rows i L) (hp : rows[i]? = some p)
    (R : SetTR prog w s.heap S L es ep tb) (hx : IsT prog w s.heap p.2 p.1) (hu : A.units < cLine)
    (hQ : ∀ b g L2 es2 ep2 tb2, Heap.SameBut S s.heap g → SetTR prog w g S L2 es2 ep2 tb2 → Got rows (i + 1) L2 → Q b { s with heap := g, toks := s.toks + (p.2.length + 1) }) :
    wpAny (model prog w) A (setAdd S (.ref p.1)) Q E s := by
  unfold setAdd
  refine wpAny_holding (wpAny_bind (wpAny_pyHash_tuple hu hx ?_))
  have cap : L.length + 1 < 64 := few L (fun q hq => List.mem_of_mem_take (got.sub q hq)) R.nd
  refine add_at (s := { s with toks := s.toks + (p.2.length + 1) }) R hx hu cap fun b g L2 es2 ep2 tb2 sb R2 same more => hQ b g L2 es2 ep2 tb2 sb R2 ?_
  by_cases hm : p.2 ∈ L.map (·.2)
  · rw [same hm]
    exact got.same hp hm
  · exact got.more hp (more hm)
theorem put_every {It S : Addr} {fp wr : List Addr} {Gn : Array GenState → Array GenState → Prop} {n : Nat} {Pv : Nat → Value → Prop} {St : Nat → Shared → Prop} {Rz : Result → Shared → Prop} {h0 : Heap}
    (wk : WalksS prog w A.in1 It fp wr Gn n Pv St) (out : S ∉ fp) (rows : Rows) (hn : n = rows.length) (few : FewR rows) (val : ∀ i v, Pv i v → ∃ p, rows[i]? = some p ∧ v = .ref p.1)
    (tup : ∀ p ∈ rows, IsT prog w h0 p.2 p.1) (noS : h0.get? S = none) (noW : ∀ b ∈ wr, h0.get? b = none) (hu : A.in1.units < cLine) :
    ∀ (left i : Nat) (s : Shared), i + left = n → St i s → (∀ b o, h0.get? b = some o → s.heap.get? b = some o) → (∃ L es ep tb, SetTR prog w s.heap S L es ep tb ∧ Got rows i L) →
      (∀ s2 L es ep tb, Moved (S :: wr) Gn s s2 → SetTR prog w s2.heap S L es ep tb → Got rows n L → (∀ b o, h0.get? b = some o → s2.heap.get? b = some o) → Rz (.ok (.ret .none)) s2) →
      codeAny (model prog w) A (.builtin "set.update.loop" ⟨[.ref S, .ref It], []⟩) Rz s := by
  have offS : S ∉ wr := fun z => out (wk.sub _ z)
  have wider : ∀ b ∈ wr, b ∈ S :: wr := fun b z => List.mem_cons_of_mem _ z
  have still : ∀ {s s2 : Shared}, Moved wr Gn s s2 → (∀ b o, h0.get? b = some o → s.heap.get? b = some o) → ∀ b o, h0.get? b = some o → s2.heap.get? b = some o := fun {s s2} mv old b o e => by
    refine mv.heap b o (fun z => ?_) (old b o e)
    rw [noW b z] at e
    cases e
  intro left
  induction left with
  | zero =>
    rintro i s e st old ⟨L, es, ep, tb, R, got⟩ fin
    obtain rfl : i = n := by omega
    refine codeAny_builtin F.entry_set_update_loop ?_
    rw [Around.under_plainId F.plain_set_update_loop _]
    refine wpAny_bind (m := pyNext (.ref It)) (wk.done s _ _ st fun s2 mv => ?_)
    have old2 := still mv old
    refine wpAny_pure (fin s2 L es ep tb (mv.mono wider) (R.keep (fun o z => mv.heap S o offS z) fun p hp => ?_) got old2)
    exact isT_keep (tup p (List.mem_of_mem_take (got.sub p hp))) old2
  | succ left ih =>
    rintro i s e st old ⟨L, es, ep, tb, R, got⟩ fin
    refine codeAny_builtin F.entry_set_update_loop ?_
    rw [Around.under_plainId F.plain_set_update_loop _]
    refine wpAny_bind (m := pyNext (.ref It)) (wk.item i s _ _ (by omega) st fun v s2 hv st2 mv => ?_)
    obtain ⟨p, hp, rfl⟩ := val i v hv
    have old2 := still mv old
    have R2 : SetTR prog w s2.heap S L es ep tb := R.keep (fun o z => mv.heap S o offS z) fun q hq => isT_keep (tup q (List.mem_of_mem_take (got.sub q hq))) old2
    show wpAny _ A.in1 (holding [Value.ref p.1] (setAdd S (.ref p.1)) >>= _) _ _ s2
    refine wpAny_bind (wpAny_holding (put_one few got hp R2 (isT_keep (tup p (List.mem_of_getElem? hp)) old2) hu fun b g L3 es3 ep3 tb3 sb R3 got3 => ?_))
    have old3 : ∀ b o, h0.get? b = some o → g.get? b = some o := fun b o z => by
      have : b ≠ S := fun y => by rw [y, noS] at z; cases z
      exact (sb.2 b this).trans (old2 b o z)
    refine wpAny_pure ⟨plainId_quiet F.plain_set_update_loop _, ih (i + 1) _ (by omega) (wk.frame _ s2 _ _ st2 (Nat.le_add_right _ _) fun b hb o z => ?_) old3 ⟨L3, es3, ep3, tb3, R3, got3⟩ fun s4 L4 es4 ep4 tb4 mv4 R4 got4 old4 => ?_⟩
    · have : b ≠ S := fun y => out (y ▸ hb)
      rw [sb.2 b this]
      exact z
    · refine fin s4 L4 es4 ep4 tb4 (Moved.trans wk.gtrans ((mv.mono wider).then_heap (Nat.le_add_right _ _) fun b o hb z => ?_) mv4) R4 got4 old4
      have : b ≠ S := fun y => hb (by rw [y]; exact List.mem_cons_self)
      rw [sb.2 b this]
      exact z
/-- a set as it is made -/
abbrev set0 (w : World) : Obj := { cls := .type "set", dict := none, data := .set #[] 0 (.fresh 0 0 (!w.params.followText "set-order")) }
set_option maxRecDepth 100000 in
set_option maxHeartbeats 3200000 in
theorem set_rows {l : Addr} {items : Array Value} (rows : Rows) {Q : Value → Shared → Prop} (noH : A.handled = none) (hl : s.heap.IsList l items) (hit : items.toList = rows.map fun p => Value.ref p.1)
    (tup : ∀ p ∈ rows, IsT prog w s.heap p.2 p.1) (few : FewR rows) (hu : A.units + 3 < cLine)
    (h : ∀ (g : Heap) (tk : Nat) L es ep tb, SetTR prog w g s.heap.objs.size L es ep tb → Got rows rows.length L → (∀ b o, s.heap.get? b = some o → g.get? b = some o) → Q (.ref s.heap.objs.size) { s with heap := g, toks := tk }) :
    wpAny (model prog w) A (call (.type "set") [.ref l]) Q E s := by
  have many : items.size = rows.length := by
    rw [← Array.length_toList, hit, List.length_map]
  obtain ⟨c0, t0, mro⟩ := F.called_set.mro
  have made := F.called_set.made
  have isub := F.called_set.sub
  refine wpAny_call (codeAny_of_tree ?_)
  show wpAny _ _ (callAny (.type "set") _) _ _ _
  refine wpAny_pure ⟨Code.quiet_builtin _ (by decide +kernel), codeAny_builtin F.entry_type_call ?_⟩
  rw [Around.under_plain (weight_type_call_type "set" [.ref l] []) rfl]
  have z1 := F.called_set.notType
  have z2 := F.called_set.canCreate
  have z3 := F.typeCall_set_1 (.ref l)
  repeat (any_goals (first | assumption | wp_step))
  refine codeAny_mono (code_set_led1 (.ref l) (E := E) (Q₁ := fun ob s1 => ob = .ref s.heap.objs.size ∧ s1 = { s with heap := s.heap.push (set0 w) }) ⟨rfl, rfl⟩) fun r s1 hr => ?_
  cases r with
  | error e => exact hr
  | ok fl =>
    cases fl with
    | next => exact hr.elim
    | brk => exact hr.elim
    | cont => exact hr.elim
    | ret ob =>
      obtain ⟨rfl, rfl⟩ := hr
      have at0 : (s.heap.push (set0 w)).get? s.heap.objs.size = some (set0 w) := Heap.get?_push_size _ rfl
      have ty : Shared.TypeIs { s with heap := s.heap.push (set0 w) } (.ref s.heap.objs.size) "set" := ⟨_, at0, rfl⟩
      have lk := F.called_set.init.lookup
      have bi := F.called_set.init.bind (.ref s.heap.objs.size)
      repeat (any_goals (first | assumption | wp_step))
      refine codeAny_mono (codeAny_call_builtin (R := wants (fun r s2 => r = .none ∧ ∃ g tk L es ep tb, s2 = { s with heap := g, toks := tk } ∧ SetTR prog w g s.heap.objs.size L es ep tb ∧ Got rows rows.length L ∧ (∀ b o, s.heap.get? b = some o → g.get? b = some o)) E)
        F.called_set.init.plain F.entry_set_init (check_set_init_1 ty ?_)) fun r2 s2 hr2 => ?_
      · obtain ⟨⟨ocls, odict, odata, oslots⟩, hol, hcl, nl, hdl⟩ := hl
        simp only at hcl hdl
        subst hcl hdl
        have hol2 : (s.heap.push (set0 w)).get? l = some { cls := .type "list", dict := odict, data := .seq items nl, slots := oslots } := Heap.get?_push_of_some _ hol
        have y1 := F.sub_list_set
        have y2 := F.sub_list_frozenset
        have y3 : (Value.type "list" == Value.type "dict") = false := by decide
        have isl : (s.heap.push (set0 w)).IsList l items := ⟨_, hol2, rfl, nl, rfl⟩
        unfold Builtin.«set.__init__» noKeywords Builtin.Frozenset.updateFrom
        generalize hPI : pyIter = PI
        wp_walk
        subst hPI
        refine wpAny_pyIter_list isl (wpAny_bind (wpAny_runValue ?_))
        have ls : l < s.heap.objs.size := Heap.lt_size hol
        have sz : (s.heap.push (set0 w)).objs.size = s.heap.objs.size + 1 := Heap.size_push ..
        have ne1 : l ≠ (s.heap.push (set0 w)).objs.size := by rw [sz]; exact Nat.ne_of_lt (Nat.lt_succ_of_lt ls)
        have ne2 : s.heap.objs.size ∉ [(s.heap.push (set0 w)).objs.size, l] := by
          rw [sz]
          intro z
          simp only [List.mem_cons, List.not_mem_nil, or_false] at z
          rcases z with z | z
          · exact Nat.succ_ne_self _ z.symm
          · exact Nat.ne_of_gt ls z
        have val : ∀ (i : Nat) (v : Value), items[i]? = some v → ∃ p, rows[i]? = some p ∧ v = .ref p.1 := fun i v hv => by
          have q : (rows.map fun p => Value.ref p.1)[i]? = some v := by rw [← hit, Array.getElem?_toList]; exact hv
          rw [List.getElem?_map] at q
          obtain ⟨p, hp, e⟩ := Option.map_eq_some_iff.mp q
          exact ⟨p, hp, e.symm⟩
        have no : ∀ b, s.heap.objs.size ≤ b → s.heap.get? b = none := fun b hb => Heap.get?_none_of_le hb
        refine put_every ((Walks.list (by simp [noH]) _ l ne1 items).toS) ne2 rows many few val tup (no _ (Nat.le_refl _)) (fun b hb => no b (by rw [List.mem_singleton.mp hb, sz]; exact Nat.le_succ _)) hu items.size 0 _ (Nat.zero_add _)
          ⟨⟨_, Heap.get?_push_size _ rfl, rfl, rfl⟩, (isl.push _)⟩ (fun b o z => Heap.get?_push_of_some _ (Heap.get?_push_of_some _ z)) ⟨[], #[], 0, _, setTR_fresh (Heap.get?_push_of_some _ at0), Got.zero rows⟩ fun s3 L es ep tb mv R3 got3 old3 => ?_
        obtain ⟨g, gg, dd, tk, oo⟩ := s3
        obtain rfl : gg = s.gens := mv.gens
        obtain rfl : dd = s.drawn := mv.drawn
        obtain rfl : oo = s.os := mv.os
        rw [many] at got3
        exact wpAny_pure (wpAny_pure ⟨rfl, g, tk, L, es, ep, tb, rfl, R3, got3, old3⟩)
      · cases r2 with
        | error e => exact hr2
        | ok f2 =>
          cases f2 with
          | ret r =>
            obtain ⟨rfl, g, tk, L, es, ep, tb, rfl, R3, got3, old3⟩ := hr2
            repeat (any_goals (first | assumption | wp_step))
            exact h _ _ _ _ _ _ R3 got3 old3
          | _ => exact hr2.elim
end
end Ev

set_option Elab.async false
set_option linter.all false
set_option maxRecDepth 100000
set_option maxHeartbeats 2000000
/-! EvS4: sorted(set(xs)) in the evaluator's words. -/
namespace Ev
open PySem PySem.Spec PyProof.Rows L2
/-! rows -/
theorem dedR_mem : ∀ {rows acc : List (List Int)} {x : List Int}, x ∈ dedR acc rows ↔ x ∈ acc ∨ x ∈ rows
  | [], acc, x => by simp [dedR]
  | y :: r, acc, x => by
    rw [dedR]
    split
    · rename_i h
      rw [dedR_mem, List.mem_cons]
      constructor
      · rintro (h1 | h1)
        · exact .inl h1
        · exact .inr (.inr h1)
      · rintro (h1 | rfl | h1)
        · exact .inl h1
        · exact .inl h
        · exact .inr h1
    · rw [dedR_mem]
      simp [or_assoc]
theorem dedR_nodup : ∀ {rows acc : List (List Int)}, acc.Nodup → (dedR acc rows).Nodup
  | [], acc, h => h
  | y :: r, acc, h => by
    rw [dedR]
    split
    · exact dedR_nodup h
    · rename_i hy
      refine dedR_nodup (List.nodup_append.mpr ⟨h, by simp, fun a ha b hb => ?_⟩)
      rw [List.mem_singleton.mp hb]
      rintro rfl
      exact hy ha
theorem ltRow_irr : ∀ x : List Int, ltRow x x = false
  | [] => rfl
  | x :: xs => by rw [ltRow, if_pos rfl]; exact ltRow_irr xs
theorem ltRow_code {B : Int} : ∀ {x y : List Int}, x.length = y.length → TS.Bd B x → TS.Bd B y → (ltRow x y = true ↔ TS.code B x < TS.code B y)
  | [], [], _, _, _ => by simp [ltRow]
  | [], _ :: _, h, _, _ => by simp at h
  | _ :: _, [], h, _, _ => by simp at h
  | x :: xs, y :: ys, h, h1, h2 => by
    have hl : xs.length = ys.length := by simpa using h
    rw [ltRow]
    by_cases e : x = y
    · subst e
      rw [if_pos rfl, TS.code_same hl]
      exact ltRow_code hl h1.tail h2.tail
    · rw [if_neg e, decide_eq_true_eq]
      constructor
      · exact fun z => TS.code_lt hl h1.tail h2.tail z
      · intro z
        by_cases k : x < y
        · exact k
        · have := TS.code_lt hl.symm h2.tail h1.tail (show y < x by omega)
          omega
theorem code_inj {B : Int} : ∀ {x y : List Int}, x.length = y.length → TS.Bd B x → TS.Bd B y → TS.code B x = TS.code B y → x = y
  | [], [], _, _, _, _ => rfl
  | [], _ :: _, h, _, _, _ => by simp at h
  | _ :: _, [], h, _, _, _ => by simp at h
  | x :: xs, y :: ys, h, h1, h2, e => by
    have hl : xs.length = ys.length := by simpa using h
    by_cases k : x = y
    · subst k
      have : TS.code B xs = TS.code B ys := by
        have n1 : ¬ TS.code B xs < TS.code B ys := fun z => by have := (TS.code_same (d := x) hl).mpr z; omega
        have n2 : ¬ TS.code B ys < TS.code B xs := fun z => by have := (TS.code_same (d := x) hl.symm).mpr z; omega
        omega
      rw [code_inj hl h1.tail h2.tail this]
    · rcases Int.lt_or_gt_of_ne k with z | z
      · have := TS.code_lt hl h1.tail h2.tail z; omega
      · have := TS.code_lt hl.symm h2.tail h1.tail z; omega
/-- there is a bound -/
theorem bd_some : ∀ (rows : List (List Int)), (∀ r ∈ rows, ∀ i ∈ r, 0 ≤ i) → ∃ B : Int, ∀ r ∈ rows, TS.Bd B r := by
  have one : ∀ r : List Int, ∃ B : Int, ∀ i ∈ r, i < B := by
    intro r
    induction r with
    | nil => exact ⟨0, by simp⟩
    | cons i r ih =>
      obtain ⟨B, h⟩ := ih
      refine ⟨max (i + 1) B, fun j hj => ?_⟩
      rcases List.mem_cons.mp hj with rfl | hj
      · omega
      · have := h j hj; omega
  intro rows
  induction rows with
  | nil => exact fun _ => ⟨0, by simp⟩
  | cons r rows ih =>
    intro h
    obtain ⟨B, hB⟩ := ih fun r hr => h r (List.mem_cons_of_mem _ hr)
    obtain ⟨C, hC⟩ := one r
    refine ⟨max B C, fun q hq i hi => ?_⟩
    rcases List.mem_cons.mp hq with rfl | hq
    · have := hC i hi
      exact ⟨h _ List.mem_cons_self i hi, by omega⟩
    · have := hB q hq i hi
      exact ⟨this.1, by omega⟩
theorem sortR_code {B : Int} {rows : List (List Int)} {d : Nat} (hd : ∀ r ∈ rows, r.length = d) (hB : ∀ r ∈ rows, TS.Bd B r) {out : List (List Int)} (h1 : out.Nodup) (h2 : ∀ x, x ∈ out ↔ x ∈ rows) (h3 : out.Pairwise fun p q => TS.code B p ≤ TS.code B q) : out = sortR rows := by
  have mem : ∀ x, x ∈ sortR rows ↔ x ∈ rows := fun x => by
    unfold sortR
    rw [(List.mergeSort_perm _ _).mem_iff, dedR_mem]
    simp
  have nd : (sortR rows).Nodup := (List.mergeSort_perm _ _).nodup_iff.mpr (dedR_nodup List.nodup_nil)
  have cmp : ∀ p ∈ rows, ∀ q ∈ rows, (!ltRow q p) = decide (TS.code B p ≤ TS.code B q) := fun p hp q hq => by
    have := ltRow_code (x := q) (y := p) ((hd q hq).trans (hd p hp).symm) (hB q hq) (hB p hp)
    cases h : ltRow q p with
    | true => rw [h] at this; have := this.mp rfl; exact (decide_eq_false (by omega)).symm
    | false =>
      rw [h] at this
      refine (decide_eq_true ?_).symm
      by_cases z : TS.code B q < TS.code B p
      · have := this.mpr z; cases this
      · omega
  have e : sortR rows = (dedR [] rows).mergeSort fun p q => decide (TS.code B p ≤ TS.code B q) := by
    have := List.map_mergeSort (r := fun p q => !ltRow q p) (s := fun p q => decide (TS.code B p ≤ TS.code B q)) (f := id) (l := dedR [] rows) fun p hp q hq => cmp p (by simpa [dedR_mem] using hp) q (by simpa [dedR_mem] using hq)
    simpa [sortR] using this
  have pw : (sortR rows).Pairwise fun p q => TS.code B p ≤ TS.code B q := by
    rw [e]
    have := List.pairwise_mergeSort (le := fun p q => decide (TS.code B p ≤ TS.code B q)) (fun a b c h k => by simp only [decide_eq_true_eq] at *; omega) (fun a b => by simp only [Bool.or_eq_true, decide_eq_true_eq]; omega) (dedR [] rows)
    exact this.imp fun h => by simpa using h
  refine List.Perm.eq_of_pairwise (le := fun p q => TS.code B p ≤ TS.code B q) (fun a b ha hb k k' => ?_) h3 pw ((List.perm_ext_iff_of_nodup h1 nd).mpr fun x => by rw [h2, mem])
  have ha := (h2 a).mp ha
  have hb := (mem b).mp hb
  exact code_inj ((hd a ha).trans (hd b hb).symm) (hB a ha) (hB b hb) (by omega)
theorem rowsFit_spec {rows : List (List Int)} (h : rowsFit rows = true) : ∃ d, 1 ≤ d ∧ (∀ r ∈ rows, r.length = d) ∧ (∀ r ∈ rows, ∀ i ∈ r, 0 ≤ i) ∧ (dedR [] rows).length ≤ 62 := by
  cases rows with
  | nil => exact ⟨1, Nat.le_refl _, by simp, by simp, by simp [dedR]⟩
  | cons x r =>
    unfold rowsFit at h
    simp only [Bool.and_eq_true, decide_eq_true_eq, List.all_eq_true] at h
    exact ⟨x.length, h.1.1, fun q hq => (h.1.2 q hq).1, fun q hq => (h.1.2 q hq).2, h.2⟩
/-! the machine -/
section
variable {X : Cx}
def rSetF (K : PySem.W.Frag) (P : Program) (w : World) : List V → Hp → VK → Prop := fun xs H Q => ∃ (l : Addr) (rows : Rows), xs = [V.ref l] ∧ SqL K H l (rows.map fun p => V.ref p.1) ∧ (∀ p ∈ rows, SqT K H p.1 (p.2.map V.int)) ∧ FewR rows ∧
  ∀ a L, H a = none → (∀ p ∈ L, p ∈ rows) → (∀ p ∈ rows, p.2 ∈ L.map (·.2)) → Q (.ref a) (L2.upd H a (SetTO P w a L))
theorem cr_setF (hc : X.calm = true) (hu : X.A.units + 64 < cLine) : CallR X (.type "set") (rSetF X.K X.prog X.w) := by
  rintro pins s σ H xs us Q I r ⟨l, rows, rfl, hl, ht, few, q⟩
  obtain rfl := Vals.ref1 r
  obtain ⟨its, rv, pl, -⟩ := I.list hl
  refine set_rows rows (I.ok.hd hc) pl.isList (by simpa using refs_of_vals rv) (fun p hp => I.isT (ht p hp)) few (by omega) fun g tk L es ep tb R got old => ?_
  refine ⟨.ref s.heap.objs.size, L2.upd H s.heap.objs.size (SetTO X.prog X.w s.heap.objs.size L), I.laid (t' := tk) old (Nat.le_refl _) (setTO_new R.t0), rfl, q _ L (I.hok.fresh (Nat.le_refl _)) (fun p hp => ?_) fun p hp => ?_⟩
  · exact List.mem_of_mem_take (got.sub p hp)
  · refine got.all p ?_
    rw [List.take_length]
    exact hp
theorem rp_row {K : PySem.W.Frag} {G : Hp} {v : V} {d : D} {row : List Int} (r : Rp K G v d) (h : rowOf d = some row) : ∃ a, v = .ref a ∧ SqT K G a (row.map V.int) ∧ row.length ≤ big := by
  cases d <;> simp only [rowOf, reduceCtorEq] at h
  rename_i xs
  cases r with
  | tup h1 h2 h3 =>
    have e := rp_ints h2 h
    have e2 : xs = row.map PyData.int := by
      clear h1 h2 h3 e
      induction xs generalizing row with
      | nil => cases h; rfl
      | cons x xs ih =>
        cases x <;> simp only [intsD, reduceCtorEq] at h
        split at h
        · rename_i is hi
          cases h
          rw [ih hi]
          rfl
        · cases h
    subst e
    exact ⟨_, rfl, h1, by rw [e2, List.length_map] at h3; exact h3⟩
theorem rp_rows {K : PySem.W.Frag} {G : Hp} : ∀ {vs : List V} {xs : List D} {rows : List (List Int)}, RpAll K G vs xs → rowsOfD xs = some rows → ∃ ps : Rows, vs = ps.map (fun p => V.ref p.1) ∧ rows = ps.map (·.2) ∧ ∀ p ∈ ps, SqT K G p.1 (p.2.map V.int) ∧ p.2.length ≤ big
  | _, _, rows, .nil, h => by cases h; exact ⟨[], rfl, rfl, by simp⟩
  | _, _, rows, .cons (v := v) (vs := vs) (d := d) (ds := ds) r t, h => by
    unfold rowsOfD at h
    cases h1 : rowOf d with
    | none => rw [h1] at h; cases h
    | some x =>
      cases h2 : rowsOfD ds with
      | none => rw [h1, h2] at h; cases h
      | some xs =>
        rw [h1, h2] at h
        cases h
        obtain ⟨a, rfl, h3, h5⟩ := rp_row r h1
        obtain ⟨ps, rfl, rfl, h4⟩ := rp_rows t h2
        refine ⟨(a, x) :: ps, rfl, rfl, fun p hp => ?_⟩
        rcases List.mem_cons.mp hp with rfl | hp
        · exact ⟨h3, h5⟩
        · exact h4 p hp
theorem rows_rpall {K : PySem.W.Frag} {G : Hp} : ∀ {L : Rows}, (∀ p ∈ L, SqT K G p.1 (p.2.map V.int)) → (∀ p ∈ L, p.2.length ≤ big) → RpAll K G (L.map fun p => V.ref p.1) ((L.map (·.2)).map rowD)
  | [], _, _ => .nil
  | p :: L, h, k => .cons (.tup (h p List.mem_cons_self) (rp_all_ints' p.2) (by rw [List.length_map]; exact k p List.mem_cons_self)) (rows_rpall (fun q hq => h q (List.mem_cons_of_mem _ hq)) fun q hq => k q (List.mem_cons_of_mem _ hq))
where rp_all_ints' : ∀ ns : List Int, RpAll K G (ns.map V.int) (ns.map PyData.int)
  | [] => .nil
  | n :: ns => .cons (.int n) (rp_all_ints' ns)
theorem e_sset {C : Option Nat} {a : Expr} {ma : Env → M R} {p p2 q pos : Pos} (hc : X.calm = true) (hu : X.A.units + 65 < cLine) (hg : Gl X "sorted") (hm : X.mg "sorted" = none) (hg2 : Gl X "set") (hm2 : X.mg "set" = none)
    (ha : PE X a (rE C X.K ma)) (ns : ∀ y p, a ≠ .Starred y p) : PE X (.Call (.Name "sorted" p) [.Call (.Name "set" p2) [a] [] q] [] pos) (rE C X.K fun ρ => bnd (ma ρ) fun y => lift (biD .sset [y.look])) := by
  have h1 : PE X (.Call (.Name "set" p2) [a] [] q) (tCB (rSetF X.K X.prog X.w) (tCons (rE C X.K ma) tNil)) :=
    pe_callTy (cr_setF hc (by omega)) hg2 hm2 (by decide +kernel) (pa_cons ha pa_nil (hs := notStar_each ns)) (by decide +kernel) (by decide +kernel) (notStar_each ns) rfl
  refine (pe_callB (cr_sortedT hc) hg hm (by decide +kernel) (pa_cons h1 pa_nil) (by decide +kernel) (by decide +kernel) (by rfl) (by rfl)).imp ?_
  rintro σ H Q ⟨ρ, t, G, r, t', e0, h, k⟩
  obtain ⟨y, t1, h1, h⟩ := bnd_some h
  obtain ⟨h2, rfl⟩ := lift_some' h
  refine ⟨ρ, t, G, y, _, e0, h1, fun v G1 H1 x1 e1 q1 => ?_⟩
  have lk := RE.lk e0 q1 (Ext.rfl x1.le) e1
  cases hy : y.look with
  | list xs =>
    rw [hy] at h2 lk
    have h2 : ssetD xs = some r := h2
    unfold ssetD at h2
    cases hr : rowsOfD xs with
    | none => rw [hr] at h2; cases h2
    | some rows =>
      rw [hr] at h2
      simp only at h2
      split at h2
      · rename_i fit
        cases h2
        obtain ⟨d, hd1, hd, hnn, hfew⟩ := rowsFit_spec fit
        obtain ⟨B, hB⟩ := bd_some rows hnn
        obtain ⟨l, vs, rfl, sl, rp, hlen⟩ := lk.list x1.le
        obtain ⟨ps, rfl, rfl, hps⟩ := rp_rows rp hr
        have few : FewR ps := fun L hL hn => by
          have := List.Nodup.length_le_of_subset hn (l₂ := dedR [] (ps.map (·.2))) fun z hz => by
            obtain ⟨w, hw, rfl⟩ := List.mem_map.mp hz
            exact dedR_mem.mpr (.inr (List.mem_map.mpr ⟨w, hL w hw, rfl⟩))
          rw [List.length_map] at this
          omega
        refine ⟨l, ps, rfl, sl, fun p hp => x1.le.st (hps p hp).1, few, fun a L ha hL hall => ?_⟩
        have hn1 : ∀ b o, H1 b = some o → L2.upd H1 a (SetTO X.prog X.w a L) b = some o := fun b o e => by
          rw [upd_ne (ne_of_none e ha)]
          exact e
        have le2 : Le G1 (L2.upd H1 a (SetTO X.prog X.w a L)) := fun b o e => hn1 b o (x1.le b o e)
        refine ⟨a, L, d, B, rfl, upd_same, fun p hp => le2.st (hps p (hL p hp)).1, hd1, fun p hp => ⟨hd _ (List.mem_map.mpr ⟨p, hL p hp, rfl⟩), hB _ (List.mem_map.mpr ⟨p, hL p hp, rfl⟩)⟩, fun L2' p pm nd _ pw hp => ?_⟩
        have eq : L2'.map (·.2) = sortR (ps.map (·.2)) := by
          refine sortR_code hd hB nd (fun z => ?_) (List.pairwise_map.mpr pw)
          rw [(pm.map (·.2)).mem_iff]
          constructor
          · intro hz
            obtain ⟨w, hw, rfl⟩ := List.mem_map.mp hz
            exact List.mem_map.mpr ⟨w, hL w hw, rfl⟩
          · intro hz
            obtain ⟨w, hw, rfl⟩ := List.mem_map.mp hz
            exact hall w hw
        have memL : ∀ z ∈ L2', z ∈ ps := fun z hz => hL z (pm.mem_iff.mp hz)
        have hsz : ∀ z ∈ L2', z.2.length ≤ big := fun z hz => (hps z (memL z hz)).2
        have rpo := rows_rpall (G := G1) (fun z hz => (hps z (memL z hz)).1) hsz
        rw [eq] at rpo
        refine post_of k x1 e1 (.ref p) G1 _ ((Ext.new x1.le ha).trans (Ext.new le2 hp)) ⟨p, rfl, ?_, x1.le.none ?_, ⟨_, upd_same, rpo⟩, ?_⟩
        · cases hz : H1 p with
          | none => rfl
          | some o => rw [hn1 p o hz] at hp; cases hp
        · cases hz : H1 p with
          | none => rfl
          | some o => rw [hn1 p o hz] at hp; cases hp
        · have := rpo.length
          rw [← this, List.length_map, pm.length_eq]
          have := few L hL (by simpa using (pm.map (·.2)).nodup_iff.mp nd)
          simp only [big]
          omega
      · cases h2
  | _ => rw [hy] at h2; cases h2
end
end Ev

set_option Elab.async false
set_option linter.all false
set_option maxRecDepth 100000
set_option maxHeartbeats 2000000
/-! EvS5: max of a list, a tuple of whole numbers. -/
namespace Ev
open PySem PySem.Spec PyProof.Rows L2
theorem reads_ints {h : Heap} : ∀ {ns : List Int} {us : List Value}, Vals (ns.map V.int) us → ∃ as, ReadsAll h us (ns.map PyData.int) as
  | [], _, r => by cases r; exact ⟨_, .nil⟩
  | n :: ns, _, r => by
    cases r with
    | cons r1 r2 =>
      obtain ⟨as, q⟩ := reads_ints (h := h) r2
      obtain ⟨t, rfl⟩ := r1
      exact ⟨_, .cons (.int n t) q⟩
theorem intsD_map : ∀ {xs : List D} {is : List Int}, intsD xs = some is → xs = is.map .int
  | [], is, h => by cases h; rfl
  | x :: xs, is, h => by
    cases x <;> simp only [intsD, reduceCtorEq] at h
    split at h
    · rename_i i js hj
      cases h
      rw [intsD_map hj]
      rfl
    · cases h
theorem cb_max1 {X : Cx} (hc : X.calm = true) (hu : X.A.units + 65 < cLine) : CallR X (.builtin "max") (rL X.K (biD .max1)) := by
  rintro pins s σ H xs us Q I r ⟨G, ds, res, l, k, hb, p⟩
  match ds, hb with
  | [d], hb =>
    obtain ⟨v, rfl, k1⟩ := k.one
    have hb : (match items d with
      | some xs => match intsD xs with
        | some (i :: is) => some (R.val (PyData.int (List.foldl max i is)))
        | _ => none
      | none => none) = some res := hb
    cases hd : items d with
    | none => rw [hd] at hb; cases hb
    | some ys =>
      rw [hd] at hb
      simp only at hb
      cases hi : intsD ys with
      | none => rw [hi] at hb; cases hb
      | some js =>
        rw [hi] at hb
        cases js with
        | nil => cases hb
        | cons i is =>
          simp only at hb
          cases hb
          have hys := intsD_map hi
          have hal : PySem.W.AlikeAll (PyData.int i :: is.map PyData.int) := by
            refine ⟨fun x hx y hy => ?_, fun x hx => ?_⟩
            · have : ∀ z ∈ PyData.int i :: is.map PyData.int, ∃ n, z = .int n := fun z hz => by
                rcases List.mem_cons.mp hz with rfl | hz
                · exact ⟨_, rfl⟩
                · obtain ⟨n, _, rfl⟩ := List.mem_map.mp hz; exact ⟨_, rfl⟩
              obtain ⟨n, rfl⟩ := this x hx
              obtain ⟨m, rfl⟩ := this y hy
              rfl
            · rcases List.mem_cons.mp hx with rfl | hx
              · intro z; cases z
              · obtain ⟨n, _, rfl⟩ := List.mem_map.mp hx
                intro z; cases z
          have hdp : ∀ js : List Int, PyData.depthAll (js.map PyData.int) = 0 := fun js => by
            induction js with
            | nil => rfl
            | cons j js ih => rw [List.map_cons, PyData.depthAll, ih]; rfl
          have hdep : PyData.depthAll (PyData.int i :: is.map PyData.int) = 0 := hdp (i :: is)
          have post : ∀ v', RelV (.int ((is.foldl max i))) v' → Q (.int (is.foldl max i)) H := fun _ _ => p.val l (.int _)
          cases d with
          | list zs =>
            cases hd
            obtain ⟨a, vs, rfl, h1, r1, z1⟩ := k1.list l
            have ev := rp_ints r1 hi
            subst ev
            obtain ⟨its, rv, hl, hz⟩ := I.list h1
            obtain rfl := Vals.ref1 r
            obtain ⟨as, rd⟩ := reads_ints (h := s.heap) rv
            refine PySem.W.max_list_data (I.ok.hd hc) hl.isList (x := .int i) (xs := is.map .int) rd hal (by rw [hdep]; omega) fun j u h' tk bs hu rdu hk => ?_
            rw [PySem.W.maxD_ints] at rdu
            cases rdu
            exact ⟨.int _, H, I.kept hk, ⟨_, rfl⟩, p.val l (.int _)⟩
          | tuple zs =>
            cases hd
            obtain ⟨a, vs, rfl, h1, r1, z1⟩ := k1.tuple l
            have ev := rp_ints r1 hi
            subst ev
            obtain ⟨its, rv, hl, hz⟩ := I.tuple (l.st h1)
            obtain rfl := Vals.ref1 r
            obtain ⟨as, rd⟩ := reads_ints (h := s.heap) rv
            refine PySem.W.max_tuple_data (I.ok.hd hc) hl (x := .int i) (xs := is.map .int) rd hal (by rw [hdep]; omega) fun j u h' tk bs hu rdu hk => ?_
            rw [PySem.W.maxD_ints] at rdu
            cases rdu
            exact ⟨.int _, H, I.kept hk, ⟨_, rfl⟩, p.val l (.int _)⟩
          | _ => cases hd
end Ev

set_option Elab.async false
set_option linter.all false
set_option maxRecDepth 100000
set_option maxHeartbeats 2000000
/-! EvS6: max(xs, key=f), min(xs, key=f), f a def of the text. -/
namespace Ev
open PySem PySem.Spec PyProof.Rows L2
/-- an own object's place -/
structure Own1 (X : Cx) (P : List (Addr × Obj)) (a : Addr) : Prop where
  nl : a ≠ X.env.locals
  nf : a ∉ X.fs
  sz : X.s_0.heap.objs.size ≤ a
  nc : ∀ x c, X.env.cells.lookup x = some c → c ≠ a
  np : ∀ p ∈ X.pn ++ P, p.1 ≠ a
section
variable {X : Cx} {P : List (Addr × Obj)} {σ : L2.St} {H : Hp} {s : Shared} {k : Nat} {fa : Addr} {fd : FuncData} {ps : List Str} {x : Str} {Φ : Call}
theorem Own1.new (I : Inv X P σ H s) {a : Addr} (h : s.heap.objs.size ≤ a) : Own1 X P a where
  nl := Nat.ne_of_gt (Nat.lt_of_lt_of_le I.lt h)
  nf := I.nofs h
  sz := Nat.le_trans I.sz h
  nc := fun y c hc z => by
    obtain ⟨v, o', e', d'⟩ := I.cell y c hc
    rw [z] at e'
    exact absurd (Heap.lt_size e') (Nat.not_lt.mpr h)
  np := fun p hp z => by
    obtain ⟨q, _⟩ := I.pin p hp
    rw [z] at q
    exact absurd (Heap.lt_size q) (Nat.not_lt.mpr h)
theorem _root_.L2.Inv.own1 {a : Addr} {h' : Heap} {t' : Nat} (I : Inv X P σ H s) (o : Own1 X P a) (hn : H a = none) (kp : ∀ b o, b ≠ a → s.heap.get? b = some o → h'.get? b = some o) : Inv X P σ H { s with heap := h', toks := t' } :=
  I.turned kp hn o.nl (.inr o.sz) o.nc o.np
theorem bestK_drop {mx : Bool} {b : D × D} : ∀ {l : List (D × D)} {j : Nat} {p : D × D}, l[j]? = some p → bestK mx b (l.drop j) = (if (if mx then ltD b.1 p.1 else ltD p.1 b.1) then bestK mx p (l.drop (j + 1)) else bestK mx b (l.drop (j + 1)))
  | l, j, p, h => by
    have hj : j < l.length := (List.getElem?_eq_some_iff.mp h).1
    have e : l.drop j = p :: l.drop (j + 1) := by
      rw [List.drop_eq_getElem_cons hj]
      rw [(List.getElem?_eq_some_iff.mp h).2]
    rw [e]
    obtain ⟨k, x⟩ := b
    obtain ⟨k', x'⟩ := p
    rw [bestK]
theorem sq_keep {K : PySem.W.Frag} {G H G' H' : Hp} {a : Addr} {vs : List V} (x : Ext no G H G' H') (h : SqL K H a vs) : SqL K H' a vs := by
  rcases h with (h | ⟨o, h⟩) | h
  · exact .inl (.inl (x.h _ _ h id))
  · exact .inl (.inr ⟨o, x.h _ _ h id⟩)
  · exact .inr h

theorem max_loop (Fk : FnOk X.prog X.w X.K X.mg X.base CX0 k fa fd ps (spEv X.K Φ x 1 false)) {A : Around} (hh : A.handled = none) (hr : Room k A.in1) (hb : Binds X.K fd ps []) (hA : ∀ (P : List (Addr × Obj)) (H : Hp) (s : Shared), Inv X P σ H s → Env0 X.prog X.w X.K X.mg X.base A.in1 X.stack s H)
    {l S it : Addr} {vsV : List V} {xs ks : List D} {res : D × D} {G₀ H₀ : Hp} {R : Result → Shared → Prop} (kw : List (Str × Value)) (hS : Own1 X P S) (hi : Own1 X P it) (hSi : S ≠ it) (sl : SqL X.K H₀ l vsV) (rp : RpAll X.K G₀ vsV xs) (hk : keysOf Φ x xs = some ks) (so : sortsOk ks = true) :
    ∀ (n j : Nat) (s : Shared) (G H : Hp) (vb kb : Value) (vbV kbV : V) (b : D × D) (c : Nat) (oi : Obj), xs.length - (j + 1) = n → j + 1 ≤ xs.length → Inv X P σ H s → Ext no G₀ H₀ G H → H S = none → H it = none →
    s.heap.get? S = some (kObj #[vb, kb] c) → s.heap.get? it = some oi → oi.cls = .type "list_iterator" → oi.data = .fields #[.ref l, .int (j + 1 : Nat) 0] →
    RelV vbV vb → Rp X.K G vbV b.2 → RelV kbV kb → Rp X.K G kbV b.1 → b.1 ∈ ks → bestK true b ((ks.zip xs).drop (j + 1)) = res →
    (∀ v vV s' H' G', Inv X P σ H' s' → Ext no G₀ H₀ G' H' → RelV vV v → Rp X.K G' vV res.2 → R (.ok (.ret v)) s') →
    codeAny (model X.prog X.w) A (.builtin "max.loop" ⟨[.ref it, .ref fa, .ref S], kw⟩) R s := by
  obtain ⟨hal, hsk, h60, halk⟩ := sorts_alike so
  have hname : (toString "max" ++ toString ".loop" : String) = "max.loop" := by decide
  have hlk := keysOf_len hk
  have hlr := rp.length
  intro n
  induction n with
  | zero =>
    intro j s G H vb kb vbV kbV b c oi hn hj I x1 nS ni oS oI ci di rvb pvb rkb pkb mb hres hR
    obtain ⟨its, rv, hl, hz⟩ := I.list (sq_keep x1 sl)
    have hlv := rv.length
    refine codeAny_builtin F.entry_max_loop ?_
    rw [Around.under_plainId F.plain_max_loop _]
    show wpAny _ A.in1 (seqItems? (.ref S) >>= _) _ _ s
    refine wpAny_bind (wpAny_seqItems oS rfl ?_)
    show wpAny _ A.in1 (tryCatch (pyNext (.ref it)) _ >>= _) _ _ s
    refine wpAny_bind (wpAny_tryCatch (wpAny_pyNext_list_end (A := A.in1) hh ⟨oi, oI, ci, di⟩ hl.isList (by simp; omega) fun h' hm => ?_))
    have oS' : h'.get? S = some (kObj #[vb, kb] c) := hm S _ hSi oS
    show wpAny _ A.in1 (updateSeq S (fun _ => #[]) >>= _) _ _ _
    refine wpAny_bind ?_
    refine wpAny_updateSeq oS' rfl (wpAny_bind (wpAny_letGo (wpAny_pure ?_)))
    have I1 : Inv X P σ H { s with heap := h', toks := s.toks } := I.own1 hi ni fun b o hb q => hm b o hb q
    have I2 := I1.own1 (h' := h'.update S (Obj.mapSeq fun _ => (#[] : Array Value))) (t' := s.toks) hS nS fun b o hb q => (Heap.get?_update_other _ _ (Ne.symm hb)).trans q
    refine hR vb vbV _ H G I2 x1 rvb ?_
    have : (ks.zip xs).drop (j + 1) = [] := List.drop_eq_nil_of_le (by rw [List.length_zip]; omega)
    rw [this] at hres
    rw [← hres]
    exact pvb
  | succ n ih =>
    intro j s G H vb kb vbV kbV b c oi hn hj I x1 nS ni oS oI ci di rvb pvb rkb pkb mb hres hR
    obtain ⟨its, rv, hl, hz⟩ := I.list (sq_keep x1 sl)
    have hlv := rv.length
    have hjx : j + 1 < xs.length := by omega
    obtain ⟨d, hd⟩ : ∃ d, xs[j + 1]? = some d := ⟨_, List.getElem?_eq_getElem hjx⟩
    obtain ⟨v, hv, rvd⟩ := rp.get hd
    obtain ⟨u, hu, ru⟩ := rv.get hv
    obtain ⟨r, t', kd, hc, hf, hkj⟩ := keysOf_at hk hd
    refine codeAny_builtin F.entry_max_loop ?_
    rw [Around.under_plainId F.plain_max_loop _]
    show wpAny _ A.in1 (seqItems? (.ref S) >>= _) _ _ s
    refine wpAny_bind (wpAny_seqItems oS rfl ?_)
    show wpAny _ A.in1 (tryCatch (pyNext (.ref it)) _ >>= _) _ _ s
    refine wpAny_bind (wpAny_tryCatch (wpAny_pyNext_list_item ⟨oi, oI, ci, di⟩ hl.isList (x := u) (by simpa using hu) fun h' hit' hm => ?_))
    obtain ⟨oi', oI', ci', di'⟩ := hit'
    have oS' : h'.get? S = some (kObj #[vb, kb] c) := hm.extBut S _ hSi oS
    have I1 : Inv X P σ H { s with heap := h', toks := s.toks } := I.own1 hi ni fun b o hb q => hm.extBut b o hb q
    have I1p : Inv X (P ++ [(S, kObj #[vb, kb] c), (it, oi')]) σ H { s with heap := h', toks := s.toks } := I1.pins_of fun p hp => by
      rcases List.mem_append.mp hp with hp | hp
      · exact I1.pin p (List.mem_append_right _ hp)
      · simp only [List.mem_cons, List.not_mem_nil, or_false] at hp
        rcases hp with rfl | rfl
        · exact ⟨oS', nS, hS.nl, hS.nf, fun v z => by cases z⟩
        · exact ⟨oI', ni, hi.nl, hi.nf, fun v z => by rw [di'] at z; cases z⟩
    show wpAny _ A.in1 (tryCatch (holding [u] (call (.ref fa) [u])) _ >>= _) _ _ _
    refine wpAny_bind (wpAny_tryCatch (wpAny_holding (wpAny_mono (key_turn Fk hr hb I1p (hA _ _ _ I1p) x1.le (Rp.mono x1.g _ _ rvd) ru hc hf) (fun ku s2 hq => ?_) fun _ _ z => z)))
    obtain ⟨kv, H2, G2, I2p, rk, x2, rpk⟩ := hq
    obtain ⟨oS2, nS2, _, _, _⟩ := I2p.pin (S, kObj #[vb, kb] c) (by simp)
    obtain ⟨oI2, ni2, _, _, _⟩ := I2p.pin (it, oi') (by simp)
    have I2 : Inv X P σ H2 s2 := pins_in I2p
    have kdm : kd ∈ ks := List.mem_of_getElem? hkj
    have e60 : okAll 60 [kd] = true ∧ okAll 60 [b.1] = true := by
      have key : ∀ {l : List D}, okAll 60 l = true → ∀ d ∈ l, ok 60 d = true := by
        intro l
        induction l with
        | nil => intro _ d hd; simp at hd
        | cons y l ih =>
          intro h d hd
          rw [okAll, Bool.and_eq_true] at h
          rcases List.mem_cons.mp hd with rfl | hd
          · exact h.1
          · exact ih h.2 d hd
      exact ⟨by rw [okAll, key h60 _ kdm]; rfl, by rw [okAll, key h60 _ mb]; rfl⟩
    obtain ⟨as1, rd1⟩ : ∃ as, Reads s2.heap ku kd as := by
      cases each_reads I2 x2.le (.cons rpk .nil) (.cons rk .nil) e60.1 with
      | cons a _ => exact a
    obtain ⟨as2, rd2⟩ : ∃ as, Reads s2.heap kb b.1 as := by
      cases each_reads I2 x2.le (.cons (Rp.mono x2.g _ _ pkb) .nil) (.cons rkb .nil) e60.2 with
      | cons a _ => exact a
    have hun : A.in1.units + min kd.depth b.1.depth < cLine := by
      have q1 := hr.un
      have q2 := okAll_depth h60 kd kdm
      have q3 := Nat.min_le_left kd.depth b.1.depth
      omega
    have knn : kd ≠ .none := by
      rintro rfl
      have : ks.all keyD = true := by
        unfold sortsOk at so
        simp only [Bool.and_eq_true] at so
        exact so.2
      have := List.all_eq_true.mp this _ kdm
      cases this
    have hz2 : (ks.zip xs)[j + 1]? = some (kd, d) := by
      rw [List.getElem?_zip_eq_some]
      exact ⟨hkj, hd⟩
    have hbd := bestK_drop (mx := true) (b := b) hz2
    rw [hres] at hbd
    show wpAny _ A.in1 (tryCatch (holding [u, ku] (richCompare .Gt ku kb >>= _)) _ >>= _) _ _ _
    refine wpAny_bind (wpAny_tryCatch (wpAny_holding (wpAny_bind (PySem.W.rcGt_alike _ _ A.in1 s2 ku kb _ _ rd1 rd2 (alk_alike _ _ (halk _ kdm _ mb)) knn hun X.prog X.w _ _ ?_))))
    refine wpAny_bind (wpAny_holding (wpAny_truthy_bool ?_))
    refine wpAny_bind (wpAny_letGo (wpAny_pure ?_))
    rw [dlt_ord _ _ (halk _ mb _ kdm)]
    cases hb2 : ordD .lt b.1 kd with
    | true =>
      simp only [if_true]
      have hb3 : (if true = true then ltD b.1 kd else ltD kd b.1) = true := hb2
      rw [if_pos hb3] at hbd
      refine wpAny_bind ?_
      refine wpAny_updateSeq oS2 rfl (wpAny_bind (wpAny_letGo ?_))
      rw [hname]
      obtain ⟨c2, oS3⟩ : ∃ c2, (s2.heap.update S (Obj.mapSeq fun _ => #[u, ku])).get? S = some (kObj #[u, ku] c2) := ⟨_, get?_update_seq oS2 fun _ => #[u, ku]⟩
      have I3 := I2.own1 (h' := s2.heap.update S (Obj.mapSeq fun _ => #[u, ku])) (t' := s2.toks) hS nS2 fun b o hb q => (Heap.get?_update_other _ _ (Ne.symm hb)).trans q
      refine wpAny_pure ⟨plainId_quiet F.plain_max_loop _, ih (j + 1) _ G2 H2 u ku v kv (kd, d) c2 oi' (by omega) hjx I3 (x1.trans x2) nS2 ni2 oS3 ((Heap.get?_update_other _ _ hSi).trans oI2) ci' ?_ ru (Rp.mono (x1.g.trans x2.g) _ _ rvd) rk rpk kdm hbd.symm hR⟩
      rw [di']
    | false =>
      simp only [Bool.false_eq_true, if_false]
      have hb3 : ¬ (if true = true then ltD b.1 kd else ltD kd b.1) = true := by
        have : (if true = true then ltD b.1 kd else ltD kd b.1) = false := hb2
        rw [this]
        exact Bool.false_ne_true
      rw [if_neg hb3] at hbd
      refine wpAny_bind (wpAny_letGo ?_)
      rw [hname]
      refine wpAny_pure ⟨plainId_quiet F.plain_max_loop _, ih (j + 1) _ G2 H2 vb kb vbV kbV b c oi' (by omega) hjx I2 (x1.trans x2) nS2 ni2 oS2 oI2 ci' ?_ rvb (Rp.mono x2.g _ _ pvb) rkb (Rp.mono x2.g _ _ pkb) mb hbd.symm hR⟩
      rw [di']
def rBmax (K : PySem.W.Frag) (Φ : Call) (x : Str) (fa : Addr) : List V → List V → Hp → VK → Prop := fun vs zs H Q => ∃ G v d r, Le G H ∧ vs = [v] ∧ zs = [.ref fa] ∧ Lk K G H v d ∧ bestD true (keysOf Φ x) d = some r ∧ Post K G H r Q
theorem cr_bmax (Fk : FnOk X.prog X.w X.K X.mg X.base CX0 k fa fd ps (spEv X.K Φ x 1 false)) (hr : Room k X.A.in1) (hb : Binds X.K fd ps []) : CallRK X (.builtin "max") [Str.ofString "key"] (rBmax X.K Φ x fa) := by
  intro pins s σ H vs zs us ws Q I r rz h
  obtain ⟨G, v, d, o, l, rfl, rfl, lk, hs, post⟩ := h
  obtain ⟨w1, rfl, e1⟩ := vals1 rz
  have e1 : w1 = Value.ref fa := e1
  subst e1
  cases d with
  | list xs =>
    obtain ⟨a, vsV, rfl, sl, rp, hlen⟩ := lk.list l
    obtain rfl := Vals.ref1 r
    have hs : ((keysOf Φ x xs).bind fun ks => if sortsOk ks then (match ks.zip xs with
      | [] => none
      | p :: ps => some (R.val (bestK true p ps).2)) else none) = some o := hs
    cases hk : keysOf Φ x xs with
    | none => rw [hk] at hs; cases hs
    | some ks =>
      rw [hk] at hs
      simp only [Option.bind_some] at hs
      split at hs
      · rename_i so
        have hlk := keysOf_len hk
        have hlr := rp.length
        cases xs with
        | nil => simp at hs
        | cons d0 xs =>
          cases ks with
          | nil => simp at hlk
          | cons k0 ks =>
            simp only [List.zip_cons_cons] at hs
            cases hs
            have hh : X.A.handled = none := hr.hd
            obtain ⟨its, rv, hl, hz⟩ := I.list sl
            obtain ⟨v0, hv0, rvd0⟩ := rp.get (i := 0) (d := d0) rfl
            obtain ⟨u0, hu0, ru0⟩ := rv.get hv0
            obtain ⟨r0, t0, kd0, hc0, hf0, hk0⟩ := keysOf_at (j := 0) (d := d0) hk rfl
            have hk0 : some k0 = some kd0 := hk0
            cases hk0
            have hname : (toString "max" ++ toString ".loop" : String) = "max.loop" := by decide
            refine PyProof.Rows.kmk_tree F.kind_max F.plain_max F.entry_max (PyProof.Rows.kmk_max_key _ _) ?_
            show wpAny _ X.A.in1 (Builtin.Builtins.bindParams "max" ["key", "default"] 0 ⟨[], [(Str.ofString "key", .ref fa)]⟩ >>= _) _ _ s
            refine wpAny_bind (wpAny_of_eq (show Builtin.Builtins.bindParams "max" ["key", "default"] 0 ⟨[], [(Str.ofString "key", .ref fa)]⟩ = pure [some (.ref fa), none] from rfl) ?_)
            refine wpAny_bind (wpAny_pure ?_)
            refine wpAny_bind (wpAny_pyIter_list hl.isList ?_)
            refine wpAny_bind (wpAny_newObj_type ?_)
            rw [hname]
            have hz1 : (s.heap.push { cls := .type "list_iterator", data := .fields #[.ref a, .int 0 0] }).objs.size = s.heap.objs.size + 1 := Heap.size_push ..
            have old : ∀ b o, s.heap.get? b = some o → ((s.heap.push { cls := .type "list_iterator", data := .fields #[.ref a, .int 0 0] }).push { cls := .type "list", data := .seq #[] 0 }).get? b = some o := fun b o q => Heap.get?_push_of_some _ (Heap.get?_push_of_some _ q)
            have I1 : Inv X pins σ H { s with heap := (s.heap.push { cls := .type "list_iterator", data := .fields #[.ref a, .int 0 0] }).push { cls := .type "list", data := .seq #[] 0 } } := I.kept (t' := s.toks) old
            have oi1 : Own1 X pins s.heap.objs.size := Own1.new I (Nat.le_refl _)
            have oS1 : Own1 X pins (s.heap.objs.size + 1) := Own1.new I (Nat.le_succ _)
            have ni : H s.heap.objs.size = none := I.hok.fresh (Nat.le_refl _)
            have nS : H (s.heap.objs.size + 1) = none := I.hok.fresh (Nat.le_succ _)
            have oI : ((s.heap.push { cls := .type "list_iterator", data := .fields #[.ref a, .int 0 0] }).push { cls := .type "list", data := .seq #[] 0 }).get? s.heap.objs.size = some { cls := .type "list_iterator", data := .fields #[.ref a, .int 0 0] } := Heap.get?_push_of_some _ (Heap.get?_push_size _ rfl)
            have oS : ((s.heap.push { cls := .type "list_iterator", data := .fields #[.ref a, .int 0 0] }).push { cls := .type "list", data := .seq #[] 0 }).get? (s.heap.objs.size + 1) = some (kObj #[] 0) := by
              have := Heap.get?_push_size (s.heap.push { cls := .type "list_iterator", data := .fields #[.ref a, .int 0 0] }) (o := kObj #[] 0) rfl
              rw [hz1] at this
              exact this
            refine wpAny_pure ⟨plainId_quiet F.plain_max_loop _, ?_⟩
            rw [show (s.heap.push { cls := .type "list_iterator", data := .fields #[.ref a, .int 0 0] }).objs.size = s.heap.objs.size + 1 from hz1]
            refine codeAny_builtin F.entry_max_loop ?_
            rw [Around.under_plainId F.plain_max_loop _]
            show wpAny _ X.A.in1 (seqItems? (.ref (s.heap.objs.size + 1)) >>= _) _ _ _
            refine wpAny_bind (wpAny_seqItems oS rfl ?_)
            show wpAny _ X.A.in1 (tryCatch (pyNext (.ref s.heap.objs.size)) _ >>= _) _ _ _
            obtain ⟨its1, rv1, hl1, hz3⟩ := I1.list sl
            obtain ⟨u1, hu1, ru1⟩ := rv1.get hv0
            refine wpAny_bind (wpAny_tryCatch (wpAny_pyNext_list_item ⟨_, oI, rfl, rfl⟩ hl1.isList (x := u1) (by simpa using hu1) fun h' hit' hm => ?_))
            obtain ⟨oi', oI', ci', di'⟩ := hit'
            have oS' : h'.get? (s.heap.objs.size + 1) = some (kObj #[] 0) := hm.extBut _ _ (Nat.succ_ne_self _) oS
            have I2 : Inv X pins σ H { s with heap := h', toks := s.toks } := I1.own1 oi1 ni fun b o hb q => hm.extBut b o hb q
            have I2p : Inv X (pins ++ [(s.heap.objs.size + 1, kObj #[] 0), (s.heap.objs.size, oi')]) σ H { s with heap := h', toks := s.toks } := I2.pins_of fun p hp => by
              rcases List.mem_append.mp hp with hp | hp
              · exact I2.pin p (List.mem_append_right _ hp)
              · simp only [List.mem_cons, List.not_mem_nil, or_false] at hp
                rcases hp with rfl | rfl
                · exact ⟨oS', nS, oS1.nl, oS1.nf, fun v z => by cases z⟩
                · exact ⟨oI', ni, oi1.nl, oi1.nf, fun v z => by rw [di'] at z; cases z⟩
            show wpAny _ X.A.in1 (tryCatch (holding [u1] (call (.ref fa) [u1])) _ >>= _) _ _ _
            refine wpAny_bind (wpAny_tryCatch (wpAny_holding (wpAny_mono (key_turn Fk hr hb I2p I2p.env0.in1 l rvd0 ru1 hc0 hf0) (fun ku s2 hq => ?_) fun _ _ z => z)))
            obtain ⟨kv, H2, G2, I3p, rk, x2, rpk⟩ := hq
            obtain ⟨oS2, nS2, _, _, _⟩ := I3p.pin (s.heap.objs.size + 1, kObj #[] 0) (by simp)
            obtain ⟨oI2, ni2, _, _, _⟩ := I3p.pin (s.heap.objs.size, oi') (by simp)
            have I3 : Inv X pins σ H2 s2 := pins_in I3p
            show wpAny _ X.A.in1 (updateSeq (s.heap.objs.size + 1) (fun _ => #[u1, ku]) >>= _) _ _ _
            refine wpAny_bind ?_
            refine wpAny_updateSeq oS2 rfl ?_
            rw [hname]
            obtain ⟨c2, oS3⟩ : ∃ c2, (s2.heap.update (s.heap.objs.size + 1) (Obj.mapSeq fun _ => #[u1, ku])).get? (s.heap.objs.size + 1) = some (kObj #[u1, ku] c2) := ⟨_, get?_update_seq oS2 fun _ => #[u1, ku]⟩
            have I4 := I3.own1 (h' := s2.heap.update (s.heap.objs.size + 1) (Obj.mapSeq fun _ => #[u1, ku])) (t' := s2.toks) oS1 nS2 fun b o hb q => (Heap.get?_update_other _ _ (Ne.symm hb)).trans q
            refine wpAny_pure ⟨plainId_quiet F.plain_max_loop _, max_loop Fk hh hr hb (fun P H s I => I.env0.in1) _ oS1 oi1 (Nat.succ_ne_self _) sl rp hk so _ 0 _ G2 H2 u1 ku v0 kv (k0, d0) c2 oi' rfl (Nat.succ_le_succ (Nat.zero_le _)) I4 x2 nS2 ni2 oS3 ((Heap.get?_update_other _ _ (Nat.succ_ne_self _)).trans oI2) ci' (by rw [di']) ru1 (Rp.mono x2.g _ _ rvd0) rk rpk List.mem_cons_self rfl fun v vV s' H' G' I' x' rv' rp' => ?_⟩
            exact ⟨vV, H', I', rv', post vV G' H' x' rp'⟩
      · cases hs
  | _ => cases hs
theorem e_bmax {C : Option Nat} {a : Expr} {ma : Env → M R} {p p2 p3 pos : Pos} (Fk : FnOk X.prog X.w X.K X.mg X.base CX0 k fa fd ps (spEv X.K Φ x 1 false)) (hr : Room k X.A.in1.in1) (hb : Binds X.K fd ps []) (hg : Gl X "max") (hm : X.mg "max" = none) (hgx : Gl X x) (hmx : X.mg x = some (.ref fa)) (hdx : (x == ("__debug__" : Str)) = false)
    (ha : PE X a (rE C X.K ma)) (ns : ∀ y p, a ≠ .Starred y p) : PE X (.Call (.Name "max" p) [a] [⟨some (Str.ofString "key"), .Name x p2, p3⟩] pos) (rE C X.K fun ρ => bnd (ma ρ) fun y => lift (bestD true (keysOf Φ x) y.look)) := by
  have e1 : starEach [a] X.env = [(false, eval a X.env)] := notStar_each (es := []) ns
  have hr1 : Room k X.A.in1 := ⟨hr.hd, by have := hr.dp; show X.A.depth + 3 * k + 5 < _; exact this, by have := hr.un; show X.A.units + 1 + 16 * k + 200 < _; have e : X.A.in1.in1.units = X.A.units + 1 + 1 := rfl; omega⟩
  refine (pe_callBK (e := a) (es := []) (cr_bmax Fk hr1 hb) hg hm (by decide +kernel) (pa_cons ha pa_nil (hs := notStar_each ns)) (pk_cons (pe_glob (v := .ref fa) hgx hmx rfl hdx) pk_nil) (by decide +kernel) (by decide +kernel) (by rw [e1]; rfl) (by rw [e1]; rfl) (by rfl) (by rfl) (by rfl)).imp ?_
  rintro σ H Q ⟨ρ, t, G, r, t', e0, h, kk⟩
  obtain ⟨y, t1, h1, h⟩ := bnd_some h
  obtain ⟨h2, rfl⟩ := lift_some' h
  exact ⟨ρ, t, G, y, _, e0, h1, fun v G1 H1 x1 e1 q1 => ⟨G1, v, y.look, r, x1.le, rfl, rfl, RE.lk e0 q1 (Ext.rfl x1.le) e1, h2, post_of kk x1 e1⟩⟩

theorem min_loop (Fk : FnOk X.prog X.w X.K X.mg X.base CX0 k fa fd ps (spEv X.K Φ x 1 false)) {A : Around} (hh : A.handled = none) (hr : Room k A.in1) (hb : Binds X.K fd ps []) (hA : ∀ (P : List (Addr × Obj)) (H : Hp) (s : Shared), Inv X P σ H s → Env0 X.prog X.w X.K X.mg X.base A.in1 X.stack s H)
    {l S it : Addr} {vsV : List V} {xs ks : List D} {res : D × D} {G₀ H₀ : Hp} {R : Result → Shared → Prop} (kw : List (Str × Value)) (hS : Own1 X P S) (hi : Own1 X P it) (hSi : S ≠ it) (sl : SqL X.K H₀ l vsV) (rp : RpAll X.K G₀ vsV xs) (hk : keysOf Φ x xs = some ks) (so : sortsOk ks = true) :
    ∀ (n j : Nat) (s : Shared) (G H : Hp) (vb kb : Value) (vbV kbV : V) (b : D × D) (c : Nat) (oi : Obj), xs.length - (j + 1) = n → j + 1 ≤ xs.length → Inv X P σ H s → Ext no G₀ H₀ G H → H S = none → H it = none →
    s.heap.get? S = some (kObj #[vb, kb] c) → s.heap.get? it = some oi → oi.cls = .type "list_iterator" → oi.data = .fields #[.ref l, .int (j + 1 : Nat) 0] →
    RelV vbV vb → Rp X.K G vbV b.2 → RelV kbV kb → Rp X.K G kbV b.1 → b.1 ∈ ks → bestK false b ((ks.zip xs).drop (j + 1)) = res →
    (∀ v vV s' H' G', Inv X P σ H' s' → Ext no G₀ H₀ G' H' → RelV vV v → Rp X.K G' vV res.2 → R (.ok (.ret v)) s') →
    codeAny (model X.prog X.w) A (.builtin "min.loop" ⟨[.ref it, .ref fa, .ref S], kw⟩) R s := by
  obtain ⟨hal, hsk, h60, halk⟩ := sorts_alike so
  have hname : (toString "min" ++ toString ".loop" : String) = "min.loop" := by decide
  have hlk := keysOf_len hk
  have hlr := rp.length
  intro n
  induction n with
  | zero =>
    intro j s G H vb kb vbV kbV b c oi hn hj I x1 nS ni oS oI ci di rvb pvb rkb pkb mb hres hR
    obtain ⟨its, rv, hl, hz⟩ := I.list (sq_keep x1 sl)
    have hlv := rv.length
    refine codeAny_builtin F.entry_min_loop ?_
    rw [Around.under_plainId F.plain_min_loop _]
    show wpAny _ A.in1 (seqItems? (.ref S) >>= _) _ _ s
    refine wpAny_bind (wpAny_seqItems oS rfl ?_)
    show wpAny _ A.in1 (tryCatch (pyNext (.ref it)) _ >>= _) _ _ s
    refine wpAny_bind (wpAny_tryCatch (wpAny_pyNext_list_end (A := A.in1) hh ⟨oi, oI, ci, di⟩ hl.isList (by simp; omega) fun h' hm => ?_))
    have oS' : h'.get? S = some (kObj #[vb, kb] c) := hm S _ hSi oS
    show wpAny _ A.in1 (updateSeq S (fun _ => #[]) >>= _) _ _ _
    refine wpAny_bind ?_
    refine wpAny_updateSeq oS' rfl (wpAny_bind (wpAny_letGo (wpAny_pure ?_)))
    have I1 : Inv X P σ H { s with heap := h', toks := s.toks } := I.own1 hi ni fun b o hb q => hm b o hb q
    have I2 := I1.own1 (h' := h'.update S (Obj.mapSeq fun _ => (#[] : Array Value))) (t' := s.toks) hS nS fun b o hb q => (Heap.get?_update_other _ _ (Ne.symm hb)).trans q
    refine hR vb vbV _ H G I2 x1 rvb ?_
    have : (ks.zip xs).drop (j + 1) = [] := List.drop_eq_nil_of_le (by rw [List.length_zip]; omega)
    rw [this] at hres
    rw [← hres]
    exact pvb
  | succ n ih =>
    intro j s G H vb kb vbV kbV b c oi hn hj I x1 nS ni oS oI ci di rvb pvb rkb pkb mb hres hR
    obtain ⟨its, rv, hl, hz⟩ := I.list (sq_keep x1 sl)
    have hlv := rv.length
    have hjx : j + 1 < xs.length := by omega
    obtain ⟨d, hd⟩ : ∃ d, xs[j + 1]? = some d := ⟨_, List.getElem?_eq_getElem hjx⟩
    obtain ⟨v, hv, rvd⟩ := rp.get hd
    obtain ⟨u, hu, ru⟩ := rv.get hv
    obtain ⟨r, t', kd, hc, hf, hkj⟩ := keysOf_at hk hd
    refine codeAny_builtin F.entry_min_loop ?_
    rw [Around.under_plainId F.plain_min_loop _]
    show wpAny _ A.in1 (seqItems? (.ref S) >>= _) _ _ s
    refine wpAny_bind (wpAny_seqItems oS rfl ?_)
    show wpAny _ A.in1 (tryCatch (pyNext (.ref it)) _ >>= _) _ _ s
    refine wpAny_bind (wpAny_tryCatch (wpAny_pyNext_list_item ⟨oi, oI, ci, di⟩ hl.isList (x := u) (by simpa using hu) fun h' hit' hm => ?_))
    obtain ⟨oi', oI', ci', di'⟩ := hit'
    have oS' : h'.get? S = some (kObj #[vb, kb] c) := hm.extBut S _ hSi oS
    have I1 : Inv X P σ H { s with heap := h', toks := s.toks } := I.own1 hi ni fun b o hb q => hm.extBut b o hb q
    have I1p : Inv X (P ++ [(S, kObj #[vb, kb] c), (it, oi')]) σ H { s with heap := h', toks := s.toks } := I1.pins_of fun p hp => by
      rcases List.mem_append.mp hp with hp | hp
      · exact I1.pin p (List.mem_append_right _ hp)
      · simp only [List.mem_cons, List.not_mem_nil, or_false] at hp
        rcases hp with rfl | rfl
        · exact ⟨oS', nS, hS.nl, hS.nf, fun v z => by cases z⟩
        · exact ⟨oI', ni, hi.nl, hi.nf, fun v z => by rw [di'] at z; cases z⟩
    show wpAny _ A.in1 (tryCatch (holding [u] (call (.ref fa) [u])) _ >>= _) _ _ _
    refine wpAny_bind (wpAny_tryCatch (wpAny_holding (wpAny_mono (key_turn Fk hr hb I1p (hA _ _ _ I1p) x1.le (Rp.mono x1.g _ _ rvd) ru hc hf) (fun ku s2 hq => ?_) fun _ _ z => z)))
    obtain ⟨kv, H2, G2, I2p, rk, x2, rpk⟩ := hq
    obtain ⟨oS2, nS2, _, _, _⟩ := I2p.pin (S, kObj #[vb, kb] c) (by simp)
    obtain ⟨oI2, ni2, _, _, _⟩ := I2p.pin (it, oi') (by simp)
    have I2 : Inv X P σ H2 s2 := pins_in I2p
    have kdm : kd ∈ ks := List.mem_of_getElem? hkj
    have e60 : okAll 60 [kd] = true ∧ okAll 60 [b.1] = true := by
      have key : ∀ {l : List D}, okAll 60 l = true → ∀ d ∈ l, ok 60 d = true := by
        intro l
        induction l with
        | nil => intro _ d hd; simp at hd
        | cons y l ih =>
          intro h d hd
          rw [okAll, Bool.and_eq_true] at h
          rcases List.mem_cons.mp hd with rfl | hd
          · exact h.1
          · exact ih h.2 d hd
      exact ⟨by rw [okAll, key h60 _ kdm]; rfl, by rw [okAll, key h60 _ mb]; rfl⟩
    obtain ⟨as1, rd1⟩ : ∃ as, Reads s2.heap ku kd as := by
      cases each_reads I2 x2.le (.cons rpk .nil) (.cons rk .nil) e60.1 with
      | cons a _ => exact a
    obtain ⟨as2, rd2⟩ : ∃ as, Reads s2.heap kb b.1 as := by
      cases each_reads I2 x2.le (.cons (Rp.mono x2.g _ _ pkb) .nil) (.cons rkb .nil) e60.2 with
      | cons a _ => exact a
    have hun : A.in1.units + min kd.depth b.1.depth < cLine := by
      have q1 := hr.un
      have q2 := okAll_depth h60 kd kdm
      have q3 := Nat.min_le_left kd.depth b.1.depth
      omega
    have knn : kd ≠ .none := by
      rintro rfl
      have : ks.all keyD = true := by
        unfold sortsOk at so
        simp only [Bool.and_eq_true] at so
        exact so.2
      have := List.all_eq_true.mp this _ kdm
      cases this
    have hz2 : (ks.zip xs)[j + 1]? = some (kd, d) := by
      rw [List.getElem?_zip_eq_some]
      exact ⟨hkj, hd⟩
    have hbd := bestK_drop (mx := false) (b := b) hz2
    rw [hres] at hbd
    show wpAny _ A.in1 (tryCatch (holding [u, ku] (richCompare .Lt ku kb >>= _)) _ >>= _) _ _ _
    refine wpAny_bind (wpAny_tryCatch (wpAny_holding (wpAny_bind (PySem.W.rcLt_alike _ _ A.in1 s2 ku kb _ _ rd1 rd2 (alk_alike _ _ (halk _ kdm _ mb)) knn hun X.prog X.w _ _ ?_))))
    refine wpAny_bind (wpAny_holding (wpAny_truthy_bool ?_))
    refine wpAny_bind (wpAny_letGo (wpAny_pure ?_))
    rw [dlt_ord _ _ (halk _ kdm _ mb)]
    cases hb2 : ordD .lt kd b.1 with
    | true =>
      simp only [if_true]
      have hb3 : (if false = true then ltD b.1 kd else ltD kd b.1) = true := hb2
      rw [if_pos hb3] at hbd
      refine wpAny_bind ?_
      refine wpAny_updateSeq oS2 rfl (wpAny_bind (wpAny_letGo ?_))
      rw [hname]
      obtain ⟨c2, oS3⟩ : ∃ c2, (s2.heap.update S (Obj.mapSeq fun _ => #[u, ku])).get? S = some (kObj #[u, ku] c2) := ⟨_, get?_update_seq oS2 fun _ => #[u, ku]⟩
      have I3 := I2.own1 (h' := s2.heap.update S (Obj.mapSeq fun _ => #[u, ku])) (t' := s2.toks) hS nS2 fun b o hb q => (Heap.get?_update_other _ _ (Ne.symm hb)).trans q
      refine wpAny_pure ⟨plainId_quiet F.plain_min_loop _, ih (j + 1) _ G2 H2 u ku v kv (kd, d) c2 oi' (by omega) hjx I3 (x1.trans x2) nS2 ni2 oS3 ((Heap.get?_update_other _ _ hSi).trans oI2) ci' ?_ ru (Rp.mono (x1.g.trans x2.g) _ _ rvd) rk rpk kdm hbd.symm hR⟩
      rw [di']
    | false =>
      simp only [Bool.false_eq_true, if_false]
      have hb3 : ¬ (if false = true then ltD b.1 kd else ltD kd b.1) = true := by
        have : (if false = true then ltD b.1 kd else ltD kd b.1) = false := hb2
        rw [this]
        exact Bool.false_ne_true
      rw [if_neg hb3] at hbd
      refine wpAny_bind (wpAny_letGo ?_)
      rw [hname]
      refine wpAny_pure ⟨plainId_quiet F.plain_min_loop _, ih (j + 1) _ G2 H2 vb kb vbV kbV b c oi' (by omega) hjx I2 (x1.trans x2) nS2 ni2 oS2 oI2 ci' ?_ rvb (Rp.mono x2.g _ _ pvb) rkb (Rp.mono x2.g _ _ pkb) mb hbd.symm hR⟩
      rw [di']
def rBmin (K : PySem.W.Frag) (Φ : Call) (x : Str) (fa : Addr) : List V → List V → Hp → VK → Prop := fun vs zs H Q => ∃ G v d r, Le G H ∧ vs = [v] ∧ zs = [.ref fa] ∧ Lk K G H v d ∧ bestD false (keysOf Φ x) d = some r ∧ Post K G H r Q
theorem cr_bmin (Fk : FnOk X.prog X.w X.K X.mg X.base CX0 k fa fd ps (spEv X.K Φ x 1 false)) (hr : Room k X.A.in1) (hb : Binds X.K fd ps []) : CallRK X (.builtin "min") [Str.ofString "key"] (rBmin X.K Φ x fa) := by
  intro pins s σ H vs zs us ws Q I r rz h
  obtain ⟨G, v, d, o, l, rfl, rfl, lk, hs, post⟩ := h
  obtain ⟨w1, rfl, e1⟩ := vals1 rz
  have e1 : w1 = Value.ref fa := e1
  subst e1
  cases d with
  | list xs =>
    obtain ⟨a, vsV, rfl, sl, rp, hlen⟩ := lk.list l
    obtain rfl := Vals.ref1 r
    have hs : ((keysOf Φ x xs).bind fun ks => if sortsOk ks then (match ks.zip xs with
      | [] => none
      | p :: ps => some (R.val (bestK false p ps).2)) else none) = some o := hs
    cases hk : keysOf Φ x xs with
    | none => rw [hk] at hs; cases hs
    | some ks =>
      rw [hk] at hs
      simp only [Option.bind_some] at hs
      split at hs
      · rename_i so
        have hlk := keysOf_len hk
        have hlr := rp.length
        cases xs with
        | nil => simp at hs
        | cons d0 xs =>
          cases ks with
          | nil => simp at hlk
          | cons k0 ks =>
            simp only [List.zip_cons_cons] at hs
            cases hs
            have hh : X.A.handled = none := hr.hd
            obtain ⟨its, rv, hl, hz⟩ := I.list sl
            obtain ⟨v0, hv0, rvd0⟩ := rp.get (i := 0) (d := d0) rfl
            obtain ⟨u0, hu0, ru0⟩ := rv.get hv0
            obtain ⟨r0, t0, kd0, hc0, hf0, hk0⟩ := keysOf_at (j := 0) (d := d0) hk rfl
            have hk0 : some k0 = some kd0 := hk0
            cases hk0
            have hname : (toString "min" ++ toString ".loop" : String) = "min.loop" := by decide
            refine PyProof.Rows.kmk_tree F.kind_min F.plain_min F.entry_min (PyProof.Rows.kmk_min_key _ _) ?_
            show wpAny _ X.A.in1 (Builtin.Builtins.bindParams "min" ["key", "default"] 0 ⟨[], [(Str.ofString "key", .ref fa)]⟩ >>= _) _ _ s
            refine wpAny_bind (wpAny_of_eq (show Builtin.Builtins.bindParams "min" ["key", "default"] 0 ⟨[], [(Str.ofString "key", .ref fa)]⟩ = pure [some (.ref fa), none] from rfl) ?_)
            refine wpAny_bind (wpAny_pure ?_)
            refine wpAny_bind (wpAny_pyIter_list hl.isList ?_)
            refine wpAny_bind (wpAny_newObj_type ?_)
            rw [hname]
            have hz1 : (s.heap.push { cls := .type "list_iterator", data := .fields #[.ref a, .int 0 0] }).objs.size = s.heap.objs.size + 1 := Heap.size_push ..
            have old : ∀ b o, s.heap.get? b = some o → ((s.heap.push { cls := .type "list_iterator", data := .fields #[.ref a, .int 0 0] }).push { cls := .type "list", data := .seq #[] 0 }).get? b = some o := fun b o q => Heap.get?_push_of_some _ (Heap.get?_push_of_some _ q)
            have I1 : Inv X pins σ H { s with heap := (s.heap.push { cls := .type "list_iterator", data := .fields #[.ref a, .int 0 0] }).push { cls := .type "list", data := .seq #[] 0 } } := I.kept (t' := s.toks) old
            have oi1 : Own1 X pins s.heap.objs.size := Own1.new I (Nat.le_refl _)
            have oS1 : Own1 X pins (s.heap.objs.size + 1) := Own1.new I (Nat.le_succ _)
            have ni : H s.heap.objs.size = none := I.hok.fresh (Nat.le_refl _)
            have nS : H (s.heap.objs.size + 1) = none := I.hok.fresh (Nat.le_succ _)
            have oI : ((s.heap.push { cls := .type "list_iterator", data := .fields #[.ref a, .int 0 0] }).push { cls := .type "list", data := .seq #[] 0 }).get? s.heap.objs.size = some { cls := .type "list_iterator", data := .fields #[.ref a, .int 0 0] } := Heap.get?_push_of_some _ (Heap.get?_push_size _ rfl)
            have oS : ((s.heap.push { cls := .type "list_iterator", data := .fields #[.ref a, .int 0 0] }).push { cls := .type "list", data := .seq #[] 0 }).get? (s.heap.objs.size + 1) = some (kObj #[] 0) := by
              have := Heap.get?_push_size (s.heap.push { cls := .type "list_iterator", data := .fields #[.ref a, .int 0 0] }) (o := kObj #[] 0) rfl
              rw [hz1] at this
              exact this
            refine wpAny_pure ⟨plainId_quiet F.plain_min_loop _, ?_⟩
            rw [show (s.heap.push { cls := .type "list_iterator", data := .fields #[.ref a, .int 0 0] }).objs.size = s.heap.objs.size + 1 from hz1]
            refine codeAny_builtin F.entry_min_loop ?_
            rw [Around.under_plainId F.plain_min_loop _]
            show wpAny _ X.A.in1 (seqItems? (.ref (s.heap.objs.size + 1)) >>= _) _ _ _
            refine wpAny_bind (wpAny_seqItems oS rfl ?_)
            show wpAny _ X.A.in1 (tryCatch (pyNext (.ref s.heap.objs.size)) _ >>= _) _ _ _
            obtain ⟨its1, rv1, hl1, hz3⟩ := I1.list sl
            obtain ⟨u1, hu1, ru1⟩ := rv1.get hv0
            refine wpAny_bind (wpAny_tryCatch (wpAny_pyNext_list_item ⟨_, oI, rfl, rfl⟩ hl1.isList (x := u1) (by simpa using hu1) fun h' hit' hm => ?_))
            obtain ⟨oi', oI', ci', di'⟩ := hit'
            have oS' : h'.get? (s.heap.objs.size + 1) = some (kObj #[] 0) := hm.extBut _ _ (Nat.succ_ne_self _) oS
            have I2 : Inv X pins σ H { s with heap := h', toks := s.toks } := I1.own1 oi1 ni fun b o hb q => hm.extBut b o hb q
            have I2p : Inv X (pins ++ [(s.heap.objs.size + 1, kObj #[] 0), (s.heap.objs.size, oi')]) σ H { s with heap := h', toks := s.toks } := I2.pins_of fun p hp => by
              rcases List.mem_append.mp hp with hp | hp
              · exact I2.pin p (List.mem_append_right _ hp)
              · simp only [List.mem_cons, List.not_mem_nil, or_false] at hp
                rcases hp with rfl | rfl
                · exact ⟨oS', nS, oS1.nl, oS1.nf, fun v z => by cases z⟩
                · exact ⟨oI', ni, oi1.nl, oi1.nf, fun v z => by rw [di'] at z; cases z⟩
            show wpAny _ X.A.in1 (tryCatch (holding [u1] (call (.ref fa) [u1])) _ >>= _) _ _ _
            refine wpAny_bind (wpAny_tryCatch (wpAny_holding (wpAny_mono (key_turn Fk hr hb I2p I2p.env0.in1 l rvd0 ru1 hc0 hf0) (fun ku s2 hq => ?_) fun _ _ z => z)))
            obtain ⟨kv, H2, G2, I3p, rk, x2, rpk⟩ := hq
            obtain ⟨oS2, nS2, _, _, _⟩ := I3p.pin (s.heap.objs.size + 1, kObj #[] 0) (by simp)
            obtain ⟨oI2, ni2, _, _, _⟩ := I3p.pin (s.heap.objs.size, oi') (by simp)
            have I3 : Inv X pins σ H2 s2 := pins_in I3p
            show wpAny _ X.A.in1 (updateSeq (s.heap.objs.size + 1) (fun _ => #[u1, ku]) >>= _) _ _ _
            refine wpAny_bind ?_
            refine wpAny_updateSeq oS2 rfl ?_
            rw [hname]
            obtain ⟨c2, oS3⟩ : ∃ c2, (s2.heap.update (s.heap.objs.size + 1) (Obj.mapSeq fun _ => #[u1, ku])).get? (s.heap.objs.size + 1) = some (kObj #[u1, ku] c2) := ⟨_, get?_update_seq oS2 fun _ => #[u1, ku]⟩
            have I4 := I3.own1 (h' := s2.heap.update (s.heap.objs.size + 1) (Obj.mapSeq fun _ => #[u1, ku])) (t' := s2.toks) oS1 nS2 fun b o hb q => (Heap.get?_update_other _ _ (Ne.symm hb)).trans q
            refine wpAny_pure ⟨plainId_quiet F.plain_min_loop _, min_loop Fk hh hr hb (fun P H s I => I.env0.in1) _ oS1 oi1 (Nat.succ_ne_self _) sl rp hk so _ 0 _ G2 H2 u1 ku v0 kv (k0, d0) c2 oi' rfl (Nat.succ_le_succ (Nat.zero_le _)) I4 x2 nS2 ni2 oS3 ((Heap.get?_update_other _ _ (Nat.succ_ne_self _)).trans oI2) ci' (by rw [di']) ru1 (Rp.mono x2.g _ _ rvd0) rk rpk List.mem_cons_self rfl fun v vV s' H' G' I' x' rv' rp' => ?_⟩
            exact ⟨vV, H', I', rv', post vV G' H' x' rp'⟩
      · cases hs
  | _ => cases hs
theorem e_bmin {C : Option Nat} {a : Expr} {ma : Env → M R} {p p2 p3 pos : Pos} (Fk : FnOk X.prog X.w X.K X.mg X.base CX0 k fa fd ps (spEv X.K Φ x 1 false)) (hr : Room k X.A.in1.in1) (hb : Binds X.K fd ps []) (hg : Gl X "min") (hm : X.mg "min" = none) (hgx : Gl X x) (hmx : X.mg x = some (.ref fa)) (hdx : (x == ("__debug__" : Str)) = false)
    (ha : PE X a (rE C X.K ma)) (ns : ∀ y p, a ≠ .Starred y p) : PE X (.Call (.Name "min" p) [a] [⟨some (Str.ofString "key"), .Name x p2, p3⟩] pos) (rE C X.K fun ρ => bnd (ma ρ) fun y => lift (bestD false (keysOf Φ x) y.look)) := by
  have e1 : starEach [a] X.env = [(false, eval a X.env)] := notStar_each (es := []) ns
  have hr1 : Room k X.A.in1 := ⟨hr.hd, by have := hr.dp; show X.A.depth + 3 * k + 5 < _; exact this, by have := hr.un; show X.A.units + 1 + 16 * k + 200 < _; have e : X.A.in1.in1.units = X.A.units + 1 + 1 := rfl; omega⟩
  refine (pe_callBK (e := a) (es := []) (cr_bmin Fk hr1 hb) hg hm (by decide +kernel) (pa_cons ha pa_nil (hs := notStar_each ns)) (pk_cons (pe_glob (v := .ref fa) hgx hmx rfl hdx) pk_nil) (by decide +kernel) (by decide +kernel) (by rw [e1]; rfl) (by rw [e1]; rfl) (by rfl) (by rfl) (by rfl)).imp ?_
  rintro σ H Q ⟨ρ, t, G, r, t', e0, h, kk⟩
  obtain ⟨y, t1, h1, h⟩ := bnd_some h
  obtain ⟨h2, rfl⟩ := lift_some' h
  exact ⟨ρ, t, G, y, _, e0, h1, fun v G1 H1 x1 e1 q1 => ⟨G1, v, y.look, r, x1.le, rfl, rfl, RE.lk e0 q1 (Ext.rfl x1.le) e1, h2, post_of kk x1 e1⟩⟩
end
end Ev

set_option Elab.async false
set_option linter.all false
set_option maxRecDepth 100000
set_option maxHeartbeats 1000000
/-! EvJ0: isinstance. -/
namespace Ev
open PySem PySem.Spec PyProof.Rows L2
def kindS : PyData → String
  | .none => "NoneType"
  | .bool _ => "bool"
  | .int _ => "int"
  | .str _ => "str"
  | .list _ => "list"
  | .tuple _ => "tuple"
  | .dict _ => "dict"
def tyOk (t : String) : Bool := decide (t = "int") || decide (t = "bool") || decide (t = "str") || decide (t = "tuple") || decide (t = "list")
theorem tyOk_cases {t : String} (h : tyOk t = true) : t = "int" ∨ t = "bool" ∨ t = "str" ∨ t = "tuple" ∨ t = "list" := by
  unfold tyOk at h
  simp only [Bool.or_eq_true, decide_eq_true_eq] at h
  rcases h with (((h | h) | h) | h) | h
  · exact .inl h
  · exact .inr (.inl h)
  · exact .inr (.inr (.inl h))
  · exact .inr (.inr (.inr (.inl h)))
  · exact .inr (.inr (.inr (.inr h)))
def tabK (k t : String) : Bool := decide (k = t) || (decide (t = "int") && decide (k = "bool"))
theorem tab_all : (["NoneType", "bool", "int", "str", "list", "tuple"].all fun k => ["int", "bool", "str", "tuple", "list"].all fun t => decide (kitB k t = some (tabK k t))) = true := by decide +kernel
theorem tab_isOf {t : String} {d : PyData} {b : Bool} (h : tyOk t = true) (hd : isiD [t] d = some b) : isOf t d = tabK (kindS d) t := by
  rcases tyOk_cases h with rfl | rfl | rfl | rfl | rfl <;> cases d <;> first | (cases hd; done) | rfl
theorem kit_is {K : PySem.W.Frag} {t : String} {d : PyData} {b : Bool} (h : tyOk t = true) (hd : isiD [t] d = some b) : PySem.W.kitOne K (.type (kindS d)) (.type t) = some (isOf t d) := by
  refine kit_ty ?_
  rw [tab_isOf h hd]
  have key := List.all_eq_true.mp tab_all
  have hk : kindS d ∈ ["NoneType", "bool", "int", "str", "list", "tuple"] := by cases d <;> first | (cases hd; done) | simp [kindS]
  have ht : t ∈ ["int", "bool", "str", "tuple", "list"] := by rcases tyOk_cases h with rfl | rfl | rfl | rfl | rfl <;> simp
  exact of_decide_eq_true (List.all_eq_true.mp (key _ hk) t ht)
theorem kit_any {K : PySem.W.Frag} {d : PyData} : ∀ {tys : List String} {b : Bool}, (∀ t ∈ tys, tyOk t = true) → isiD tys d = some b → PySem.W.kitAny K (.type (kindS d)) (tys.map fun t => Value.type t) = some b
  | [], b, _, h => by
    have : b = false := by cases d <;> first | (cases h; done) | (cases h; rfl)
    subst this
    rfl
  | t :: ts, b, hk, h => by
    have nd : ∀ l : List String, isiD l d = some (l.any fun t => isOf t d) := fun l => by cases d <;> first | rfl | (cases h; done)
    rw [nd] at h
    refine kitAny_cons (kit_is (hk t List.mem_cons_self) (nd [t])) (fun e => ?_) fun e => ?_
    · have e2 : b = ts.any fun t => isOf t d := by
        cases h
        rw [List.any_cons, e, Bool.false_or]
      rw [e2]
      exact kit_any (fun t ht => hk t (List.mem_cons_of_mem _ ht)) (nd ts)
    · cases h
      rw [List.any_cons, e, Bool.true_or]
theorem ty_of {K : PySem.W.Frag} {G H : Hp} {v : V} {d : PyData} {tys : List String} {b : Bool} (l : Le G H) (k : Lk K G H v d) (hd : isiD tys d = some b) : TyX K H v (.type (kindS d)) := by
  cases d with
  | none => rw [k.none]; exact .base .non
  | bool b => rw [k.bool]; exact .base (.bl b)
  | int i => rw [k.int]; exact .base (.int i)
  | str x => rw [k.str.1]; exact .base (.str x)
  | list xs =>
    obtain ⟨a, vs, rfl, h, _, _⟩ := k.list l
    rcases h with (h | ⟨o, h⟩) | ⟨o, its, n, h1, h2, h3⟩
    · exact .base (.lst h)
    · exact .base (.frz h)
    · exact .kList h1 h2
  | tuple xs =>
    obtain ⟨a, vs, rfl, h, _, _⟩ := k.tuple l
    rcases l.st h with (h | ⟨o, h⟩) | ⟨o, its, n, h1, h2, h3⟩
    · exact .base (.tup h)
    · exact .fTuple h
    · exact .kTuple h1 h2
  | dict _ => cases hd
section
variable {X : Cx} {C : Option Nat} {a b c : Expr} {es : List Expr} {ma mb mc : Env → M R} {me : Env → M (List R)} {pos : Pos}
theorem boot_ty {t : String} {x : Str} (h : tyOk t = true) (e : x = Str.ofString t) : bootBuiltins x = some (.type t) ∧ x ≠ "__name__" ∧ (x == ("__debug__" : Str)) = false := by
  subst e
  rcases tyOk_cases h with rfl | rfl | rfl | rfl | rfl <;> exact ⟨by decide +kernel, by decide +kernel, by decide +kernel⟩
theorem e_isi1 {t : String} {x : Str} {p p2 : Pos} (hg : Gl X "isinstance") (hm : X.mg "isinstance" = none) (ha : PE X a (rE C X.K ma)) (hn : ∀ x p, a ≠ .Starred x p) (ht : tyOk t = true) (hx : x = Str.ofString t) (hg2 : Gl X x) (hm2 : X.mg x = none) :
    PE X (.Call (.Name "isinstance" p) [a, .Name x p2] [] pos) (rE C X.K fun ρ => bnd (ma ρ) fun x => lift ((isiD [t] x.look).map fun c => .val (.bool c))) := by
  obtain ⟨b1, b2, b3⟩ := boot_ty ht hx
  have hn2 : ∀ z q, Expr.Name x p2 ≠ .Starred z q := fun _ _ z => by cases z
  refine (pe_callB call_isi hg hm (by decide +kernel : bootBuiltins "isinstance" = some (.builtin "isinstance")) (pa_cons ha (pa_cons (pe_bltn (v := .ty t) hg2 hm2 b1 rfl b2 b3) pa_nil (notStar_each hn2)) (notStar_each hn)) (by decide) (by decide) (notStar_each hn) (by rw [notStar_each hn2]; rfl)).imp ?_
  rintro σ H Q ⟨ρ, tt, G, r, t', e0, h, k⟩
  obtain ⟨x, t1, h1, hB⟩ := bnd_some h
  obtain ⟨h2, rfl⟩ := lift_some' hB
  refine ⟨ρ, tt, G, x, _, e0, h1, fun v G1 H1 x1 e1 q => ?_⟩
  cases hd : isiD [t] x.look with
  | none => rw [hd] at h2; cases h2
  | some b =>
    rw [hd] at h2
    cases h2
    have kk := kit_any (K := X.K) (tys := [t]) (b := b) (by simpa using ht) hd
    have : PySem.W.kitOne X.K (.type (kindS x.look)) (.type t) = some b := by
      rw [kit_is ht hd]
      have nd : isiD [t] x.look = some ([t].any fun t => isOf t x.look) := by cases hq : x.look <;> first | rfl | (rw [hq] at hd; cases hd; done)
      rw [nd] at hd
      simpa using hd
    exact ⟨v, .ty t, _, _, b, rfl, .ty t, ty_of x1.le (RE.lk e0 q (Ext.rfl x1.le) e1) hd, this, k _ G1 H1 x1 e1 (.bl _)⟩
/-- names of built-in types -/
def tyNames : List String → List Expr → Bool
  | [], [] => true
  | t :: ts, .Name x _ :: es => tyOk t && decide (x = Str.ofString t) && tyNames ts es
  | _, _ => false
theorem a_tys : ∀ {tys : List String} {es : List Expr}, tyNames tys es = true → (∀ x p, Expr.Name x p ∈ es → Gl X x ∧ X.mg x = none) → PA X es (fun _ H Q => Q (tys.map V.ty) H)
  | [], [], _, _ => pa_nil
  | [], _ :: _, h, _ => by simp [tyNames] at h
  | t :: ts, [], h, _ => by simp [tyNames] at h
  | t :: ts, e :: es, h, hg => by
    cases e <;> simp only [tyNames, Bool.false_eq_true] at h
    rename_i x p
    rw [Bool.and_eq_true, Bool.and_eq_true, decide_eq_true_eq] at h
    obtain ⟨b1, b2, b3⟩ := boot_ty h.1.1 h.1.2
    obtain ⟨g1, g2⟩ := hg x p List.mem_cons_self
    have hn2 : ∀ z q, Expr.Name x p ≠ .Starred z q := fun _ _ z => by cases z
    exact (pa_cons (pe_bltn (v := .ty t) g1 g2 b1 rfl b2 b3) (a_tys h.2 fun x p hp => hg x p (List.mem_cons_of_mem _ hp)) (notStar_each hn2)).imp fun σ H Q q => q
theorem tys_all : ∀ {tys : List String} {es : List Expr}, tyNames tys es = true → ∀ t ∈ tys, tyOk t = true
  | [], _, _, t, h => by simp at h
  | t :: ts, [], h, _, _ => by simp [tyNames] at h
  | t :: ts, e :: es, h, u, hu => by
    cases e <;> simp only [tyNames, Bool.false_eq_true] at h
    rw [Bool.and_eq_true, Bool.and_eq_true] at h
    rcases List.mem_cons.mp hu with rfl | hu
    · exact h.1.1
    · exact tys_all h.2 u hu
theorem cls_paired : ∀ tys : List String, Paired ClsV (tys.map V.ty) (tys.map fun t => Value.type t)
  | [] => .nil
  | t :: ts => .cons (.ty t) (cls_paired ts)
theorem TyX.upd {K : PySem.W.Frag} {H : Hp} {v : V} {q : Addr} {o : HO} {d : PyData} {G : Hp} {tys : List String} {b : Bool} (l : Le G H) (hq : H q = none) (k : Lk K G H v d) (hd : isiD tys d = some b) : TyX K (upd H q o) v (.type (kindS d)) := by
  rcases k with k | ⟨a, xs, rfl, rfl, ow⟩
  · exact ty_of (G := G) (l.trans (Le.upd hq)) (.inl k) hd
  · obtain ⟨g, ⟨vs, h, r⟩, z⟩ := ow
    exact .base (.lst (xs := vs) (by rw [upd_ne (ne_of_none h hq)]; exact h))
theorem e_isiN {tys : List String} {k0 : Nat} {p p2 : Pos} (hg : Gl X "isinstance") (hm : X.mg "isinstance" = none) (ha : PE X a (rE C X.K ma)) (hn : ∀ x p, a ≠ .Starred x p) (ht : tyNames tys es = true) (hl : tys.length ≤ 5) (hgs : ∀ x p, Expr.Name x p ∈ es → Gl X x ∧ X.mg x = none) :
    PE X (.Call (.Name "isinstance" p) [a, .Tuple es k0 p2] [] pos) (rE C X.K fun ρ => bnd (ma ρ) fun x => lift ((isiD tys x.look).map fun c => .val (.bool c))) := by
  have hn2 : ∀ z q, Expr.Tuple es k0 p2 ≠ .Starred z q := fun _ _ z => by cases z
  refine (pe_callB call_isiT hg hm (by decide +kernel : bootBuiltins "isinstance" = some (.builtin "isinstance")) (pa_cons ha (pa_cons (pe_tup (a_tys ht hgs)) pa_nil (notStar_each hn2)) (notStar_each hn)) (by decide) (by decide) (notStar_each hn) (by rw [notStar_each hn2]; rfl)).imp ?_
  rintro σ H Q ⟨ρ, tt, G, r, t', e0, h, k⟩
  obtain ⟨x, t1, h1, hB⟩ := bnd_some h
  obtain ⟨h2, rfl⟩ := lift_some' hB
  refine ⟨ρ, tt, G, x, _, e0, h1, fun v G1 H1 x1 e1 q => ?_⟩
  cases hd : isiD tys x.look with
  | none => rw [hd] at h2; cases h2
  | some b =>
    rw [hd] at h2
    cases h2
    have lk := RE.lk e0 q (Ext.rfl x1.le) e1
    refine ⟨by rw [List.length_map]; exact big_line (by simp only [big]; omega), fun T hT => ?_⟩
    refine ⟨v, T, tys.map V.ty, .type (kindS x.look), tys.map fun t => Value.type t, b, rfl, upd_same, cls_paired tys, TyX.upd x1.le hT lk hd, kit_any (tys_all ht) hd, ?_⟩
    have x2 : Ext no G1 H1 G1 (upd H1 T (.tup (tys.map V.ty))) := Ext.new x1.le hT
    exact k _ G1 _ (x1.trans x2.pure) (e1.ext x2) (.bl _)
end
end Ev

set_option Elab.async false
set_option linter.all false
set_option maxRecDepth 100000
set_option maxHeartbeats 2000000
/-! EvJ: the look at an expression, and that it does what the evaluator says. -/
namespace Ev
open PySem PySem.Spec PyProof.Rows L2
structure Sta where
  N : List Str
  C : Option Nat
  fs : Str → Option (Nat × Bool)
  gs : Str → Bool
/-- the built-ins that must be nobody else's -/
def BN : List Str := ["range", "zip", "enumerate", "reversed", "list", "len", "all", "any", "sum", "max", "min", "tuple", "int", "bool", "str", "isinstance", "sorted", "set", "dict"]
def glo (sc : Scope) (x : Str) : Bool := decide (sc.names.lookup x = some .globalImplicit)
def noD (x : Str) : Bool := !(x == ("__debug__" : Str)) && !(x == ("__classdict__" : Str))
def nmOk (Z : Sta) (sc : Scope) (i : Nat) (x : Str) : Bool := decide (Z.N[i]? = some x) && (decide (sc.names.lookup x = some .local) || decide (sc.names.lookup x = some .cell) || decide (sc.names.lookup x = some .free)) && noD x
def nmL (Z : Sta) (q : Str → Bool) (sc : Scope) (i : Nat) (x : Str) : Bool := decide (Z.N[i]? = some x) && (decide (sc.names.lookup x = some .local) || (q x && decide (sc.names.lookup x = some .cell))) && !decide (Z.C = some i)
def nmsL (Z : Sta) (q : Str → Bool) (sc : Scope) : List Nat → List Expr → Bool
  | [], [] => true
  | i :: is, .Name x _ :: es => nmL Z q sc i x && nmsL Z q sc is es
  | _, _ => false
def tgOk (Z : Sta) (q : Str → Bool) (sc : Scope) : Tgt → Expr → Bool
  | .name i, e => match e with
    | .Name x _ => nmL Z q sc i x
    | _ => false
  | .tup is, e => match e with
    | .Tuple es _ _ => nmsL Z q sc is es
    | _ => false
def noStar : Expr → Bool
  | .Starred .. => false
  | _ => true
def noSet : Expr → Bool
  | .Set .. => false
  | _ => true
def plainI : Expr → Bool
  | .Slice .. => false
  | _ => true
def isTupE : Expr → Bool
  | .Tuple .. => true
  | _ => false
def cstOk (d : PyData) : Expr → Bool
  | .Constant c _ _ => match c, d with
    | .none, .none => true
    | .bool b, .bool b' => b == b'
    | .int i, .int j => decide (i = j)
    | .str x, .str y => decide (x = y) && decide (x.length ≤ big)
    | _, _ => false
  | _ => false
def isOne : Expr → Bool
  | .UnaryOp .USub (.Constant (.int 1) _ _) _ => true
  | _ => false
def isTC : T → Bool
  | .cst (.bool true) => true
  | _ => false
def biTab : Bi → Option Str
  | .len => some "len"
  | .all => some "all"
  | .any => some "any"
  | .sum => some "sum"
  | .max1 => some "max"
  | .max2 => some "max"
  | .min2 => some "min"
  | .tuple => some "tuple"
  | .list => some "list"
  | .int => some "int"
  | _ => none
def compHead (Z : Sta) (sc scope : Scope) (vs : List Nat) : Bool := blkC Z.N sc scope (vs.map fun i => (Z.N.getD i Str.empty, i)) && vs.all fun i => !decide (Z.C = some i)
abbrev qB (scope : Scope) : Str → Bool := fun x => scope.names.lookup x == some .cell
def tgsIn (is vs : List Nat) : Bool := is.all fun i => decide (i ∈ vs)
def chkKs : List Str → List (Option Expr) → Bool
  | [], [] => true
  | k :: ks, some (.Constant (.str x) _ _) :: r => decide (k = x) && decide (k.length ≤ big) && chkKs ks r
  | _, _ => false
mutual
def chk (Z : Sta) : T → (Str → Bool) → Scope → Expr → Bool
  | .var i, q, sc, e => match e with
    | .Name x _ => nmOk Z sc i x
    | _ => false
  | .cst d, q, sc, e => cstOk d e
  | .glob x, q, sc, e => match e with
    | .Name y _ => decide (y = x) && glo sc x && Z.gs x && noD x
    | _ => false
  | .tup es, q, sc, e => match e with
    | .Tuple xs _ _ => chks Z es q sc xs
    | _ => false
  | .lst es, q, sc, e => match e with
    | .List xs _ => chks Z es q sc xs
    | _ => false
  | .bin o a b, q, sc, e => match e with
    | .BinOp x p y _ => decide (p = opOf o) && chk Z a q sc x && chk Z b q sc y
    | _ => false
  | .neg a, q, sc, e => match e with
    | .UnaryOp p x _ => decide (p = .USub) && chk Z a q sc x
    | _ => false
  | .not a, q, sc, e => match e with
    | .UnaryOp p x _ => decide (p = .Not) && chk Z a q sc x
    | _ => false
  | .and a b, q, sc, e => match e with
    | .BoolOp p (x :: y :: r) pos => decide (p = .And) && chk Z a q sc x && (match r with
      | [] => chk Z b q sc y
      | z :: r => chk Z b q sc (.BoolOp .And (y :: z :: r) pos))
    | _ => false
  | .or a b, q, sc, e => match e with
    | .BoolOp p (x :: y :: r) pos => decide (p = .Or) && chk Z a q sc x && (match r with
      | [] => chk Z b q sc y
      | z :: r => chk Z b q sc (.BoolOp .Or (y :: z :: r) pos))
    | _ => false
  | .cmp o a b, q, sc, e => match e with
    | .Compare x [p] [y] _ => decide (p = cmpOf o) && chk Z a q sc x && chk Z b q sc y && !behindInMarks p y
    | _ => false
  | .cmp2 o o' a b c, q, sc, e => match e with
    | .Compare x [p, p'] [y, z] _ => decide (p = cmpOf o) && decide (p' = cmpOf o') && chk Z a q sc x && chk Z b q sc y && chk Z c q sc z && !lastMarks [p, p'] [y, z]
    | _ => false
  | .ite c a b, q, sc, e => match e with
    | .IfExp x y z _ => chk Z c q sc x && chk Z a q sc y && chk Z b q sc z
    | _ => false
  | .sub a i, q, sc, e => match e with
    | .Subscript x y _ => chk Z a q sc x && chk Z i q sc y && plainI y
    | _ => false
  | .slf a lo, q, sc, e => match e with
    | .Subscript x (.Slice (some y) none none _) _ => chk Z a q sc x && chk Z lo q sc y
    | _ => false
  | .slt a hi, q, sc, e => match e with
    | .Subscript x (.Slice none (some y) none _) _ => chk Z a q sc x && chk Z hi q sc y
    | _ => false
  | .rev a, q, sc, e => match e with
    | .Subscript x (.Slice none none (some y) _) _ => chk Z a q sc x && isOne y
    | _ => false
  | .tget i, q, sc, e => match e with
    | .Subscript (.Name x _) y _ => (match Z.C with
      | some j => nmOk Z sc j x
      | none => false) && chk Z i q sc y && plainI y
    | _ => false
  | .call f es, q, sc, e => match e with
    | .Call (.Name x _) (a :: as) [] _ => decide (x = f) && glo sc x && noD x && decide (Z.fs x = some ((a :: as).length, false)) && (a :: as).all noStar && chks Z es q sc (a :: as)
    | _ => false
  | .callT f es, q, sc, e => match e with
    | .Call (.Name x _) (.Name y _ :: as) [] _ => decide (x = f) && glo sc x && noD x && decide (Z.fs x = some (as.length + 1, true)) && as.all noStar && chks Z es q sc as && (match Z.C with
      | some j => nmOk Z sc j y
      | none => false)
    | _ => false
  | .bi b es, q, sc, e => match e with
    | .Call (.Name x _) (a :: as) [] _ => glo sc x && (match b with
      | .sset => decide (x = "sorted") && (match as, a, es with
        | [], .Call (.Name y _) [z] [] _, .cons t .nil => decide (y = "set") && glo sc y && chk Z t q sc z && noStar z
        | _, _, _ => false)
      | b => decide (biTab b = some x) && (a :: as).all noStar && chks Z es q sc (a :: as))
    | _ => false
  | .dct ks es, q, sc, e => match e with
    | .Dict keys values _ => chkKs ks keys && lenD ks es && chks Z es q sc values && values.all noStar && decide (ks ≠ []) && decide (ks.length ≤ 15) && decide ks.Nodup
    | _ => false
  | .srt a f, q, sc, e => match e with
    | .Call (.Name x _) [y] [⟨some kw, .Name z _, _⟩] _ => decide (x = "sorted") && decide (kw = Str.ofString "key") && decide (z = f) && glo sc x && glo sc z && noD z && decide (Z.fs z = some (1, false)) && chk Z a q sc y && noStar y
    | _ => false
  | .best mx a f, q, sc, e => match e with
    | .Call (.Name x _) [y] [⟨some kw, .Name z _, _⟩] _ => decide (x = if mx then "max" else "min") && decide (kw = Str.ofString "key") && decide (z = f) && glo sc x && glo sc z && noD z && decide (Z.fs z = some (1, false)) && chk Z a q sc y && noStar y
    | _ => false
  | .isi a tys, q, sc, e => match e with
    | .Call (.Name x _) [y, c] [] _ => decide (x = "isinstance") && glo sc x && chk Z a q sc y && noStar y && (match c with
      | .Name z _ => (match tys with
        | [t] => tyOk t && decide (z = Str.ofString t) && decide (z ∈ BN) && glo sc z
        | _ => false)
      | .Tuple zs _ _ => tyNames tys zs && decide (tys.length ≤ 5) && zs.all fun z => (match z with
        | .Name w _ => decide (w ∈ BN) && glo sc w
        | _ => false)
      | _ => false)
    | _ => false
  | .lrng a, q, sc, e => match e with
    | .Call (.Name x _) [.Call (.Name y _) [z] [] _] [] _ => decide (x = "list") && decide (y = "range") && glo sc x && glo sc y && chk Z a q sc z && noStar z
    | _ => false
  | .comp tg it c g, q, sc, e => match e with
    | .ListComp elt [⟨tgE, iter, ifs, n⟩] scope _ => decide (n = 0) && compHead Z sc scope (slotsT tg ++ ownG g) && chkI Z it q sc tgE iter && noSet iter && tgOk Z (qB scope) (relS scope sc) tg tgE && (match ifs with
      | [] => isTC c
      | [x] => chk Z c (qB scope) (relS scope sc) x
      | _ => false) && (match g with
      | .elt e1 => chk Z e1 (qB scope) (relS scope sc) elt
      | _ => false)
    | .ListComp elt [⟨tgE, iter, ifs, n⟩, ⟨tgE1, iter1, ifs1, n1⟩] scope _ => decide (n = 0) && decide (n1 = 0) && compHead Z sc scope (slotsT tg ++ ownG g) && chkI Z it q sc tgE iter && noSet iter && tgOk Z (qB scope) (relS scope sc) tg tgE && (match ifs with
      | [] => isTC c
      | [x] => chk Z c (qB scope) (relS scope sc) x
      | _ => false) && (match g with
      | .for_ tg1 it1 c1 (.elt e1) => chkI Z it1 (qB scope) (relS scope sc) tgE1 iter1 && noSet iter1 && tgOk Z (qB scope) (relS scope sc) tg1 tgE1 && (match ifs1 with
        | [] => isTC c1
        | [x] => chk Z c1 (qB scope) (relS scope sc) x
        | _ => false) && chk Z e1 (qB scope) (relS scope sc) elt
      | _ => false)
    | _ => false
  | _, _, _, _ => false
def chks (Z : Sta) : Ts → (Str → Bool) → Scope → List Expr → Bool
  | .nil, q, sc, es => match es with
    | [] => true
    | _ => false
  | .cons t ts, q, sc, es => match es with
    | e :: r => chk Z t q sc e && noStar e && chks Z ts q sc r
    | _ => false
  | .star t ts, q, sc, es => match es with
    | .Starred e _ :: r => chk Z t q sc e && chks Z ts q sc r
    | _ => false
def chkI (Z : Sta) : I → (Str → Bool) → Scope → Expr → Expr → Bool
  | .ex t, q, sc, tg, e => chk Z t q sc e
  | .rng t, q, sc, tg, e => match e with
    | .Call (.Name x _) [y] [] _ => decide (x = "range") && glo sc x && noStar y && chk Z t q sc y
    | _ => false
  | .zip a b, q, sc, tg, e => match e with
    | .Call (.Name x _) [y, z] [] _ => decide (x = "zip") && glo sc x && noStar y && noStar z && chk Z a q sc y && chk Z b q sc z && isTupE tg
    | _ => false
  | .enum a, q, sc, tg, e => match e with
    | .Call (.Name x _) [y] [] _ => decide (x = "enumerate") && glo sc x && noStar y && chk Z a q sc y && isTupE tg
    | _ => false
  | .revr t, q, sc, tg, e => match e with
    | .Call (.Name x _) [.Call (.Name y _) [z] [] _] [] _ => decide (x = "reversed") && decide (y = "range") && glo sc x && glo sc y && chk Z t q sc z && noStar z
    | _ => false
end
/-- what holds of a body's context -/
structure Good (X : Cx) (Z : Sta) (q : Str → Bool) (sc : Scope) (Φ : Call) (Γ : Str → Option PyData) : Prop where
  N : X.N = Z.N
  nd : X.N.Nodup
  sc : X.env.scope = sc
  calm : X.calm = true
  hu : X.A.units + 65 < cLine
  fn : ∀ x, q x = true → X.fn x = true
  fre : ∀ x ∈ BN, X.mg x = none
  fun_ : ∀ x np tp, Z.fs x = some (np, tp) → ∃ k fa fd ps, FnOk X.prog X.w X.K X.mg X.base CX0 k fa fd ps (spEv X.K Φ x np tp) ∧ (Room k X.A ∧ Room k X.A.in1.in1) ∧ X.mg x = some (.ref fa) ∧ PySem.W.keepIn X.K (.ref fa) = true ∧ Binds X.K fd ps []
  con : ∀ x, Z.gs x = true → ∃ u v, X.mg x = some u ∧ RelV v u ∧ ∀ d, Γ x = some d → ∀ G, Rp X.K G v d
theorem Good.blk {X : Cx} {Z : Sta} {q : Str → Bool} {sc : Scope} {Φ : Call} {Γ : Str → Option PyData} (g : Good X Z q sc Φ Γ) (s : Shared) (H : Hp) (scope : Scope) (A : Addr) (cl : List (Str × Addr)) (fp : List Addr) :
    Good (X.blk s H scope (compEnvC scope cl A X.env) fp) Z (qB scope) (relS scope sc) Φ Γ where
  N := g.N
  nd := g.nd
  sc := by
    show relS scope X.env.scope = _
    rw [g.sc]
  calm := g.calm
  hu := g.hu
  fn := fun _ h => h
  fre := g.fre
  fun_ := g.fun_
  con := g.con
section
variable {X : Cx} {Z : Sta} {q : Str → Bool} {sc : Scope} {Φ : Call} {Γ : Str → Option PyData}
theorem Good.gl (g : Good X Z q sc Φ Γ) {x : Str} (h : glo sc x = true) : Gl X x := by
  show X.env.scope.names.lookup x = _
  rw [g.sc]
  exact of_decide_eq_true h
theorem noD_ {x : Str} (h : noD x = true) : (x == ("__debug__" : Str)) = false ∧ (x == ("__classdict__" : Str)) = false := by
  unfold noD at h
  simpa using h
theorem Good.nm (g : Good X Z q sc Φ Γ) {i : Nat} {x : Str} (h : nmOk Z sc i x = true) : X.N[i]? = some x ∧ Vis X.env.scope x ∧ (x == ("__debug__" : Str)) = false ∧ (x == ("__classdict__" : Str)) = false := by
  unfold nmOk at h
  simp only [Bool.and_eq_true, Bool.or_eq_true, decide_eq_true_eq] at h
  refine ⟨by rw [g.N]; exact h.1.1, ?_, noD_ h.2⟩
  unfold Vis
  rw [g.sc]
  rcases h.1.2 with (h | h) | h
  · exact .inl h
  · exact .inr (.inl h)
  · exact .inr (.inr h)
theorem Good.nml (g : Good X Z q sc Φ Γ) {i : Nat} {x : Str} (h : nmL Z q sc i x = true) : X.N[i]? = some x ∧ L2.Loc X.env.scope x ∧ (X.fn x = true ∨ X.env.scope.names.lookup x = some .local) ∧ Z.C ≠ some i := by
  unfold nmL at h
  simp only [Bool.and_eq_true, Bool.or_eq_true, Bool.not_eq_true', decide_eq_true_eq, decide_eq_false_iff_not] at h
  refine ⟨by rw [g.N]; exact h.1.1, ?_, ?_, h.2⟩
  · unfold L2.Loc
    rw [g.sc]
    rcases h.1.2 with h | h
    · exact .inl h
    · exact .inr h.2
  · rw [g.sc]
    rcases h.1.2 with h | h
    · exact .inr h
    · exact .inl (g.fn x h.1)
theorem gs_of (g : Good X Z q sc Φ Γ) : ∀ {is : List Nat} {es : List Expr}, nmsL Z q sc is es = true → PGs X es (rGs Z.C X.K is) ∧ (assignEach es X.env).length = is.length ∧ (assignEach es X.env).findIdx? (·.1) = none
  | [], [], _ => ⟨gs_nil, rfl, rfl⟩
  | [], _ :: _, h => by simp [nmsL] at h
  | i :: is, [], h => by simp [nmsL] at h
  | i :: is, e :: es, h => by
    cases e <;> simp only [nmsL, Bool.false_eq_true, Bool.and_eq_true] at h
    obtain ⟨h1, h2, h3⟩ := gs_of g h.2
    obtain ⟨k1, k2, k3, k4⟩ := g.nml h.1
    refine ⟨gs_cons g.nd k1 k2 k3 k4 h1, congrArg Nat.succ h2, ?_⟩
    show List.findIdx? (·.1) ((false, _) :: assignEach es X.env) = none
    rw [List.findIdx?_cons]
    simp only [Bool.false_eq_true, if_false]
    rw [h3]
    rfl
theorem g_of (g : Good X Z q sc Φ Γ) {tg : Tgt} {e : Expr} (h : tgOk Z q sc tg e = true) : PG X e (rG Z.C X.K tg) := by
  cases tg with
  | name i =>
    cases e <;> simp only [tgOk, Bool.false_eq_true] at h
    obtain ⟨k1, k2, k3, k4⟩ := g.nml h
    exact g_name g.nd k1 k2 k3 k4
  | tup is =>
    cases e <;> simp only [tgOk, Bool.false_eq_true] at h
    obtain ⟨h1, h2, h3⟩ := gs_of g h
    exact g_tup g.calm h1 h2 h3
theorem noStar_ {e : Expr} (h : noStar e = true) : ∀ x p, e ≠ .Starred x p := fun x p z => by rw [z] at h; cases h
theorem noStars_ {es : List Expr} (h : es.all noStar = true) : ∀ e ∈ es, ∀ x p, e ≠ .Starred x p := fun e he => noStar_ (List.all_eq_true.mp h e he)
theorem noSet_ {e : Expr} (h : noSet e = true) (env : PySem.Env) (x : Value) : foldedSetIterable e env x = pure x := by
  cases e <;> first | (cases h; done) | rfl
theorem plainI_ {e : Expr} (h : plainI e = true) : PlainIx e := by
  intro o i
  cases e <;> first | (cases h; done) | rfl
/-- as a value, as a test -/
structure Snd (X : Cx) (C : Option Nat) (e : Expr) (m : Env → M R) : Prop where
  pe : PE X e (rE C X.K m)
  pt : PT X e (rT C X.K m)
  pw : ∀ op vs pos, e = .BoolOp op vs pos → PW X e (rT C X.K m)
theorem Snd.val {C : Option Nat} {e : Expr} {m : Env → M R} (h : PE X e (rE C X.K m)) (he : ∀ whole, isTrue e X.env whole = (do let v ← whole; standAt e.pos; holding [v] (truthy v))) (hb : ∀ op vs pos, e ≠ .BoolOp op vs pos) : Snd X C e m := ⟨h, t_of h he, fun op vs pos z => absurd z (hb op vs pos)⟩
theorem Snd.bool {C : Option Nat} {op : PySem.BoolOp} {vs : List Expr} {pos : Pos} {m : Env → M R} (h : PE X (.BoolOp op vs pos) (rE C X.K m)) (w : PW X (.BoolOp op vs pos) (rT C X.K m)) : Snd X C (.BoolOp op vs pos) m := ⟨h, w.pt, fun _ _ _ _ => w⟩
theorem t_ite {C : Option Nat} {a b c : Expr} {pos : Pos} {ma mb mc : Env → M R} (hc : PT X c (rT C X.K mc)) (ha : PT X a (rT C X.K ma)) (hb : PT X b (rT C X.K mb)) : PT X (.IfExp c a b pos) (rT C X.K (mIte mc ma mb)) := by
  refine ⟨fun pins s σ H Q I h => ?_⟩
  obtain ⟨ρ, t, G, r, t', e0, h, k⟩ := h
  obtain ⟨x, t1, h1, hB⟩ := bnd_some h
  obtain ⟨c, t2, h2, hC⟩ := bnd_some hB
  obtain ⟨h3, rfl⟩ := lift_some' h2
  have := isTrue_val h3
  subst this
  rw [arm_isTrue_IfExp]
  refine wpAny_bind (thn (hc.run pins s σ H (fun c H' => if c = true then rT C X.K ma σ H' Q else rT C X.K mb σ H' Q) I ⟨ρ, t, G, c, _, e0, h1, fun G1 H1 x1 e1 => ?_⟩) fun d s1 ⟨H1, I1, q1⟩ => ?_)
  · cases c with
    | true => exact rT.step x1 e1 hC k
    | false => exact rT.step x1 e1 hC k
  · cases d with
    | true => exact ha.run pins s1 σ H1 Q I1 q1
    | false => exact hb.run pins s1 σ H1 Q I1 q1
theorem cst_of {d : PyData} {e : Expr} (h : cstOk d e = true) {C : Option Nat} : Snd X C e (fun _ => ret (.val d)) := by
  cases e <;> simp only [cstOk, Bool.false_eq_true] at h
  rename_i c k pos
  split at h <;> first | (cases h; done) | skip
  · exact .val (e_cst pe_non (fun _ => .non) fun _ => rfl) (fun _ => rfl) (fun _ _ _ z => by cases z)
  · rename_i b b'
    have : b = b' := by simpa using h
    subst this
    exact .val (e_cst pe_bl (fun _ => .bl b) fun _ => rfl) (fun _ => rfl) (fun _ _ _ z => by cases z)
  · rename_i i j
    have : i = j := by simpa using h
    subst this
    exact .val (e_cst pe_int (fun _ => .int i) fun _ => rfl) (fun _ => rfl) (fun _ _ _ z => by cases z)
  · rename_i x y
    simp only [Bool.and_eq_true, decide_eq_true_eq] at h
    obtain ⟨rfl, h⟩ := h
    exact .val (e_cst pe_str (fun _ => .str x h) fun _ => rfl) (fun _ => rfl) (fun _ _ _ z => by cases z)
theorem evs_len : ∀ (ts : Ts) {es : List Expr}, chks Z ts q sc es = true → es.all noStar = true → ∀ ρ t rs t', evs Φ Γ ts ρ t = some (rs, t') → rs.length = es.length
  | .nil, es, h, _, ρ, t, rs, t', e => by
    unfold chks at h
    split at h
    · simp only [evs] at e
      obtain ⟨rfl, _⟩ := ret_some e
      rfl
    · cases h
  | .cons t ts, es, h, hs, ρ, tt, rs, t', e => by
    unfold chks at h
    split at h
    · rename_i x r
      simp only [Bool.and_eq_true] at h
      simp only [evs] at e
      obtain ⟨x, t1, h1, e1⟩ := bnd_some e
      obtain ⟨xs, t2, h2, e2⟩ := bnd_some e1
      obtain ⟨rfl, _⟩ := ret_some e2
      rw [List.all_cons, Bool.and_eq_true] at hs
      exact congrArg Nat.succ (evs_len ts h.2 hs.2 _ _ _ _ h2)
    · cases h
  | .star t ts, es, h, hs, ρ, tt, rs, t', e => by
    unfold chks at h
    split at h
    · cases hs
    · cases h
theorem bi_sound (g : Good X Z q sc Φ Γ) {b : Bi} {x : Str} (hb : biTab b = some x) (hg : glo sc x = true) {a : Expr} {as : List Expr} {me : Env → M (List R)} {p pos : Pos} (ha : PA X (a :: as) (rA Z.C X.K me)) (ns : (a :: as).all noStar = true) :
    PE X (.Call (.Name x p) (a :: as) [] pos) (rE Z.C X.K fun ρ => bnd (me ρ) fun rs => lift (biD b (rs.map R.look))) := by
  have ns := noStars_ ns
  have hg := g.gl hg
  cases b <;> simp only [biTab, reduceCtorEq] at hb <;> cases hb
  · exact e_biB cb_len hg (g.fre _ (by decide)) (by decide +kernel) ha (by decide +kernel) (by decide +kernel) ns
  · exact e_biB (cb_all g.calm) hg (g.fre _ (by decide)) (by decide +kernel) ha (by decide +kernel) (by decide +kernel) ns
  · exact e_biB (cb_any g.calm) hg (g.fre _ (by decide)) (by decide +kernel) ha (by decide +kernel) (by decide +kernel) ns
  · exact e_biB (cb_sum g.calm) hg (g.fre _ (by decide)) (by decide +kernel) ha (by decide +kernel) (by decide +kernel) ns
  · exact e_biB (cb_max1 g.calm g.hu) hg (g.fre _ (by decide)) (by decide +kernel) ha (by decide +kernel) (by decide +kernel) ns
  · exact e_biB (cb_max2 g.calm) hg (g.fre _ (by decide)) (by decide +kernel) ha (by decide +kernel) (by decide +kernel) ns
  · exact e_biB (cb_min2 g.calm) hg (g.fre _ (by decide)) (by decide +kernel) ha (by decide +kernel) (by decide +kernel) ns
  · exact e_biT cb_tuple hg (g.fre _ (by decide)) (by decide +kernel) ha (by decide +kernel) (by decide +kernel) ns
  · exact e_biT (cb_list g.calm) hg (g.fre _ (by decide)) (by decide +kernel) ha (by decide +kernel) (by decide +kernel) ns
  · exact e_biT cb_int hg (g.fre _ (by decide)) (by decide +kernel) ha (by decide +kernel) (by decide +kernel) ns
end
end Ev

set_option Elab.async false
set_option linter.all false
set_option maxRecDepth 100000
set_option maxHeartbeats 4000000
/-! EvK: expressions that pass the look do what the evaluator says. -/
namespace Ev
open PySem PySem.Spec PyProof.Rows L2
theorem isTC_ {c : T} (h : isTC c = true) : c = .cst (.bool true) := by
  unfold isTC at h
  split at h
  · rfl
  · cases h
theorem own_map (N : List Str) (vs : List Nat) : (vs.map fun i => (N.getD i Str.empty, i)).map (·.2) = vs := by
  rw [List.map_map]
  show vs.map (fun i => i) = vs
  rw [List.map_id']
theorem head_ {Z : Sta} {sc scope : Scope} {vs : List Nat} {X : Cx} (hN : X.N = Z.N) (hsc : X.env.scope = sc) (h : compHead Z sc scope vs = true) : BlkOk X.N X.env.scope scope (vs.map fun i => (Z.N.getD i Str.empty, i)) ∧ ∀ i, Z.C = some i → i ∉ vs := by
  unfold compHead at h
  rw [Bool.and_eq_true] at h
  refine ⟨by rw [hN, hsc]; exact blkOk_by h.1, fun i hi hm => ?_⟩
  have := List.all_eq_true.mp h.2 i hm
  simp [hi] at this
theorem notBool {e : Expr} (h : match e with | .BoolOp .. => False | _ => True) : ∀ op vs pos, e ≠ .BoolOp op vs pos := fun op vs pos z => by rw [z] at h; exact h
section
variable {Z : Sta} {Φ : Call} {Γ : Str → Option PyData}
theorem ifs_ok {X : Cx} {C : Option Nat} {q : Str → Bool} {sc : Scope} {c : T} {ifs : List Expr} (h : (match ifs with
      | [] => isTC c
      | [x] => chk Z c q sc x
      | _ => false) = true) (ih : ∀ x, chk Z c q sc x = true → Snd X C x (ev Φ Γ c)) : PTs X ifs (rT C X.K (ev Φ Γ c)) := by
  split at h
  · rw [isTC_ h]
    exact ts_nil
  · exact pts_one (ih _ h).pt
  · cases h
theorem keys_some : ∀ {ks : List Str} {keys : List (Option Expr)}, chkKs ks keys = true → keys.all (·.isSome) = true
  | [], [], _ => rfl
  | [], _ :: _, h => by simp [chkKs] at h
  | _ :: _, [], h => by simp [chkKs] at h
  | k :: ks, e :: r, h => by
    cases e with
    | none => simp [chkKs] at h
    | some e =>
      cases e <;> first | (simp [chkKs] at h; done) | skip
      rename_i c _ _
      cases c <;> first | (simp [chkKs] at h; done) | skip
      simp only [chkKs, Bool.and_eq_true] at h
      show (true && r.all _) = true
      rw [keys_some h.2]
      rfl
mutual
theorem snd : ∀ (t : T) {X : Cx} {q : Str → Bool} {sc : Scope} {e : Expr}, Good X Z q sc Φ Γ → chk Z t q sc e = true → Snd X Z.C e (ev Φ Γ t)
  | .var i, X, q, sc, e, g, h => by
    unfold chk at h
    split at h
    · obtain ⟨h1, h2, h3, h4⟩ := g.nm h
      exact .val (e_var h1 h2 h3 h4) (fun _ => rfl) (fun _ _ _ z => by cases z)
    · cases h
  | .cst d, X, q, sc, e, g, h => by
    unfold chk at h
    exact cst_of h
  | .glob x, X, q, sc, e, g, h => by
    unfold chk at h
    split at h
    · simp only [Bool.and_eq_true, decide_eq_true_eq] at h
      obtain ⟨⟨⟨rfl, h1⟩, h2⟩, h3⟩ := h
      obtain ⟨u, v, k1, k2, k3⟩ := g.con _ h2
      exact .val (e_glob (g.gl h1) k1 k2 (noD_ h3).1 k3) (fun _ => rfl) (fun _ _ _ z => by cases z)
    · cases h
  | .tup es, X, q, sc, e, g, h => by
    unfold chk at h
    split at h
    · exact .val (e_tup (snds es g h)) (fun _ => rfl) (fun _ _ _ z => by cases z)
    · cases h
  | .lst es, X, q, sc, e, g, h => by
    unfold chk at h
    split at h
    · exact .val (e_lst (snds es g h)) (fun _ => rfl) (fun _ _ _ z => by cases z)
    · cases h
  | .bin o a b, X, q, sc, e, g, h => by
    unfold chk at h
    split at h
    · simp only [Bool.and_eq_true, decide_eq_true_eq] at h
      obtain ⟨⟨rfl, h1⟩, h2⟩ := h
      exact .val (e_bin (snd a g h1).pe (snd b g h2).pe) (fun _ => rfl) (fun _ _ _ z => by cases z)
    · cases h
  | .neg a, X, q, sc, e, g, h => by
    unfold chk at h
    split at h
    · simp only [Bool.and_eq_true, decide_eq_true_eq] at h
      obtain ⟨rfl, h1⟩ := h
      exact .val (e_neg (snd a g h1).pe) (fun _ => rfl) (fun _ _ _ z => by cases z)
    · cases h
  | .not a, X, q, sc, e, g, h => by
    unfold chk at h
    split at h
    · simp only [Bool.and_eq_true, decide_eq_true_eq] at h
      obtain ⟨rfl, h1⟩ := h
      exact ⟨e_not (snd a g h1).pe, t_not (snd a g h1).pt, fun _ _ _ z => by cases z⟩
    · cases h
  | .and a b, X, q, sc, e, g, h => by
    unfold chk at h
    split at h
    · simp only [Bool.and_eq_true, decide_eq_true_eq] at h
      obtain ⟨⟨rfl, h1⟩, h2⟩ := h
      have sa := snd a g h1
      split at h2
      · have sb := snd b g h2
        exact .bool (e_and sa.pe (pe_one sb.pe)) (w_and sa.pt (pw_and1 sb.pt))
      · have sb := snd b g h2
        exact .bool (e_and sa.pe sb.pe) (w_and sa.pt (sb.pw _ _ _ rfl))
    · cases h
  | .or a b, X, q, sc, e, g, h => by
    unfold chk at h
    split at h
    · simp only [Bool.and_eq_true, decide_eq_true_eq] at h
      obtain ⟨⟨rfl, h1⟩, h2⟩ := h
      have sa := snd a g h1
      split at h2
      · have sb := snd b g h2
        exact .bool (e_or sa.pe (pe_one sb.pe)) (w_or sa.pt (pw_or1 sb.pt))
      · have sb := snd b g h2
        exact .bool (e_or sa.pe sb.pe) (w_or sa.pt (sb.pw _ _ _ rfl))
    · cases h
  | .orv a b, X, q, sc, e, g, h => by simp [chk] at h
  | .lrng a, X, q, sc, e, g, h => by
    unfold chk at h
    split at h
    · simp only [Bool.and_eq_true, decide_eq_true_eq] at h
      obtain ⟨⟨⟨⟨⟨rfl, rfl⟩, h1⟩, h2⟩, h3⟩, h4⟩ := h
      exact .val (e_lrng g.calm (g.gl h1) (g.fre _ (by decide)) (g.gl h2) (g.fre _ (by decide)) (snd a g h3).pe (noStar_ h4)) (fun _ => rfl) (fun _ _ _ z => by cases z)
    · cases h
  | .cmp o a b, X, q, sc, e, g, h => by
    unfold chk at h
    split at h
    · simp only [Bool.and_eq_true, decide_eq_true_eq, Bool.not_eq_true'] at h
      obtain ⟨⟨⟨rfl, h1⟩, h2⟩, h3⟩ := h
      exact ⟨e_cmp g.hu (snd a g h1).pe (snd b g h2).pe h3, t_cmp g.hu (snd a g h1).pe (snd b g h2).pe h3, fun _ _ _ z => by cases z⟩
    · cases h
  | .cmp2 o o' a b c, X, q, sc, e, g, h => by
    unfold chk at h
    split at h
    · simp only [Bool.and_eq_true, decide_eq_true_eq, Bool.not_eq_true'] at h
      obtain ⟨⟨⟨⟨⟨rfl, rfl⟩, h1⟩, h2⟩, h3⟩, h4⟩ := h
      exact ⟨e_cmp2 g.hu (snd a g h1).pe (snd b g h2).pe (snd c g h3).pe h4, t_cmp2 g.hu (snd a g h1).pe (snd b g h2).pe (snd c g h3).pe h4, fun _ _ _ z => by cases z⟩
    · cases h
  | .ite c a b, X, q, sc, e, g, h => by
    unfold chk at h
    split at h
    · simp only [Bool.and_eq_true] at h
      obtain ⟨⟨h1, h2⟩, h3⟩ := h
      have sc' := snd c g h1
      have sa := snd a g h2
      have sb := snd b g h3
      exact ⟨e_ite sc'.pt sa.pe sb.pe, t_ite sc'.pt sa.pt sb.pt, fun _ _ _ z => by cases z⟩
    · cases h
  | .sub a i, X, q, sc, e, g, h => by
    unfold chk at h
    split at h
    · simp only [Bool.and_eq_true] at h
      obtain ⟨⟨h1, h2⟩, h3⟩ := h
      exact .val (e_sub g.hu (snd a g h1).pe (snd i g h2).pe (plainI_ h3)) (fun _ => rfl) (fun _ _ _ z => by cases z)
    · cases h
  | .slf a lo, X, q, sc, e, g, h => by
    unfold chk at h
    split at h
    · simp only [Bool.and_eq_true] at h
      exact .val (e_slf (snd a g h.1).pe (snd lo g h.2).pe) (fun _ => rfl) (fun _ _ _ z => by cases z)
    · cases h
  | .slt a hi, X, q, sc, e, g, h => by
    unfold chk at h
    split at h
    · simp only [Bool.and_eq_true] at h
      exact .val (e_slt (snd a g h.1).pe (snd hi g h.2).pe) (fun _ => rfl) (fun _ _ _ z => by cases z)
    · cases h
  | .rev a, X, q, sc, e, g, h => by
    unfold chk at h
    split at h
    · simp only [Bool.and_eq_true] at h
      obtain ⟨h1, h2⟩ := h
      unfold isOne at h2
      split at h2
      · exact .val (e_rev (snd a g h1).pe) (fun _ => rfl) (fun _ _ _ z => by cases z)
      · cases h2
    · cases h
  | .stp a k, X, q, sc, e, g, h => by simp [chk] at h
  | .tget i, X, q, sc, e, g, h => by
    unfold chk at h
    split at h
    · simp only [Bool.and_eq_true] at h
      obtain ⟨⟨h1, h2⟩, h3⟩ := h
      split at h1
      · rename_i j hj
        obtain ⟨k1, k2, k3, k4⟩ := g.nm h1
        exact .val (e_tget g.hu hj k1 k2 k3 k4 (snd i g h2).pe (plainI_ h3)) (fun _ => rfl) (fun _ _ _ z => by cases z)
      · cases h1
    · cases h
  | .call f es, X, q, sc, e, g, h => by
    unfold chk at h
    split at h
    · simp only [Bool.and_eq_true, decide_eq_true_eq] at h
      obtain ⟨⟨⟨⟨⟨rfl, h1⟩, h2⟩, h3⟩, h4⟩, h5⟩ := h
      obtain ⟨k, fa, fd, ps, F, ⟨hr, hr2⟩, hm, hk, hb⟩ := g.fun_ _ _ _ h3
      exact .val (e_call F hr (g.gl h1) hm hk hb (snds es g h5) (noD_ h2).1 (noStars_ h4) rfl (evs_len es h5 h4)) (fun _ => rfl) (fun _ _ _ z => by cases z)
    · cases h
  | .callT f es, X, q, sc, e, g, h => by
    unfold chk at h
    split at h
    · simp only [Bool.and_eq_true, decide_eq_true_eq] at h
      obtain ⟨⟨⟨⟨⟨⟨rfl, h1⟩, h2⟩, h3⟩, h4⟩, h5⟩, h6⟩ := h
      obtain ⟨k, fa, fd, ps, F, ⟨hr, hr2⟩, hm, hk, hb⟩ := g.fun_ _ _ _ h3
      split at h6
      · rename_i j hj
        obtain ⟨k1, k2, k3, k4⟩ := g.nm h6
        exact .val (e_callT F hr (g.gl h1) hm hk hb (snds es g h5) (noD_ h2).1 (noStars_ h4) rfl (evs_len es h5 h4) hj k1 k2 k3 k4) (fun _ => rfl) (fun _ _ _ z => by cases z)
      · cases h6
    · cases h
  | .bi b es, X, q, sc, e, g, h => by
    unfold chk at h
    split at h
    · rw [Bool.and_eq_true] at h
      obtain ⟨hg, h⟩ := h
      split at h
      · rw [Bool.and_eq_true, decide_eq_true_eq] at h
        obtain ⟨rfl, h⟩ := h
        split at h
        · rename_i t
          simp only [Bool.and_eq_true, decide_eq_true_eq] at h
          obtain ⟨⟨⟨rfl, h2⟩, h3⟩, h4⟩ := h
          have e1 : (ev Φ Γ (.bi .sset (.cons t .nil))) = fun ρ => bnd (ev Φ Γ t ρ) fun y => lift (biD .sset [y.look]) := by
            funext ρ tt
            simp only [ev, evs]
            unfold bnd
            cases ev Φ Γ t ρ tt with
            | none => rfl
            | some p => rfl
          rw [e1]
          exact .val (e_sset g.calm g.hu (g.gl hg) (g.fre _ (by decide)) (g.gl h2) (g.fre _ (by decide)) (snd t g h3).pe (noStar_ h4)) (fun _ => rfl) (fun _ _ _ z => by cases z)
        · cases h
      · simp only [Bool.and_eq_true, decide_eq_true_eq] at h
        obtain ⟨⟨h1, h3⟩, h4⟩ := h
        exact .val (bi_sound g h1 hg (snds es g h4) h3) (fun _ => rfl) (fun _ _ _ z => by cases z)
    · cases h
  | .isi a tys, X, q, sc, e, g, h => by
    unfold chk at h
    split at h
    · simp only [Bool.and_eq_true, decide_eq_true_eq] at h
      obtain ⟨⟨⟨⟨rfl, h1⟩, h2⟩, h3⟩, h4⟩ := h
      have sa := (snd a g h2).pe
      split at h4
      · split at h4
        · simp only [Bool.and_eq_true, decide_eq_true_eq] at h4
          obtain ⟨⟨⟨k1, k2⟩, k3⟩, k4⟩ := h4
          exact .val (e_isi1 (g.gl h1) (g.fre _ (by decide)) sa (noStar_ h3) k1 k2 (g.gl k4) (g.fre _ k3)) (fun _ => rfl) (fun _ _ _ z => by cases z)
        · cases h4
      · simp only [Bool.and_eq_true, decide_eq_true_eq] at h4
        obtain ⟨⟨k1, k2⟩, k3⟩ := h4
        refine .val (e_isiN (g.gl h1) (g.fre _ (by decide)) sa (noStar_ h3) k1 k2 fun x p hx => ?_) (fun _ => rfl) (fun _ _ _ z => by cases z)
        have := List.all_eq_true.mp k3 _ hx
        simp only [Bool.and_eq_true, decide_eq_true_eq] at this
        exact ⟨g.gl this.2, g.fre _ this.1⟩
      · cases h4
    · cases h
  | .srt a f, X, q, sc, e, g, h => by
    unfold chk at h
    split at h
    · simp only [Bool.and_eq_true, decide_eq_true_eq] at h
      obtain ⟨⟨⟨⟨⟨⟨⟨⟨rfl, rfl⟩, rfl⟩, h1⟩, h2⟩, h3⟩, h4⟩, h5⟩, h6⟩ := h
      obtain ⟨k, fa, fd, ps, F, ⟨hr, hr2⟩, hm, hk, hb⟩ := g.fun_ _ _ _ h4
      exact .val (e_srt F hr2 hb (g.gl h1) (g.fre _ (by decide)) (g.gl h2) hm (noD_ h3).1 (snd a g h5).pe (noStar_ h6)) (fun _ => rfl) (fun _ _ _ z => by cases z)
    · cases h
  | .best mx a f, X, q, sc, e, g, h => by
    unfold chk at h
    split at h
    · simp only [Bool.and_eq_true, decide_eq_true_eq] at h
      obtain ⟨⟨⟨⟨⟨⟨⟨⟨hx, rfl⟩, rfl⟩, h1⟩, h2⟩, h3⟩, h4⟩, h5⟩, h6⟩ := h
      obtain ⟨k, fa, fd, ps, F, ⟨hr, hr2⟩, hm, hk, hb⟩ := g.fun_ _ _ _ h4
      cases mx with
      | true =>
        simp only [if_true] at hx
        subst hx
        exact .val (e_bmax F hr2 hb (g.gl h1) (g.fre _ (by decide)) (g.gl h2) hm (noD_ h3).1 (snd a g h5).pe (noStar_ h6)) (fun _ => rfl) (fun _ _ _ z => by cases z)
      | false =>
        simp only [Bool.false_eq_true, if_false] at hx
        subst hx
        exact .val (e_bmin F hr2 hb (g.gl h1) (g.fre _ (by decide)) (g.gl h2) hm (noD_ h3).1 (snd a g h5).pe (noStar_ h6)) (fun _ => rfl) (fun _ _ _ z => by cases z)
    · cases h
  | .dct ks es, X, q, sc, e, g, h => by
    unfold chk at h
    split at h
    · simp only [Bool.and_eq_true, decide_eq_true_eq] at h
      obtain ⟨⟨⟨⟨⟨⟨h1, hl⟩, h2⟩, h3⟩, h4⟩, h5⟩, h6⟩ := h
      obtain ⟨k1, k3, k4, k5⟩ := sndps es ks g h1 hl h2 h3
      exact .val (e_dct k1 hl (keys_some h1) k3 k4 h4 h5 h6 k5) (fun _ => rfl) (fun _ _ _ z => by cases z)
    · cases h
  | .comp tg it c (.elt e1), X, q, sc, e, g, h => by
    unfold chk at h
    split at h
    · rename_i elt tgE iter ifs n scope pos
      simp only [Bool.and_eq_true, decide_eq_true_eq] at h
      obtain ⟨⟨⟨⟨⟨⟨rfl, h1⟩, h2⟩, h3⟩, h4⟩, h5⟩, h6⟩ := h
      obtain ⟨b1, b2⟩ := head_ g.N g.sc h1
      have om := own_map Z.N (slotsT tg ++ ownG (.elt e1))
      have key := e_comp1 (pos := pos) (elt := elt) (C := Z.C) (mi := evi Φ Γ false it) (tg := tg) (mc := ev Φ Γ c) (me := ev Φ Γ e1) g.calm g.nd (sndI it g h2 false) b1 (fun s H A cl fp => g_of (g.blk s H scope A cl fp) h4) (fun s H A cl fp => ifs_ok h5 fun x hx => snd c (g.blk s H scope A cl fp) hx) (fun s H A cl fp => (snd e1 (g.blk s H scope A cl fp) h6).pe) (noSet_ h3 _) (by rw [om]; exact b2) (by rw [om]; intro i hi; exact List.mem_append_left _ hi)
      rw [om] at key
      exact .val key (fun _ => rfl) (fun _ _ _ z => by cases z)
    · simp at h
    · cases h
  | .comp tg it c (.for_ tg1 it1 c1 (.elt e1)), X, q, sc, e, g, h => by
    unfold chk at h
    split at h
    · simp at h
    · rename_i elt tgE iter ifs n tgE1 iter1 ifs1 n1 scope pos
      simp only [Bool.and_eq_true, decide_eq_true_eq] at h
      obtain ⟨⟨⟨⟨⟨⟨⟨rfl, rfl⟩, h1⟩, h2⟩, h3⟩, h4⟩, h5⟩, ⟨⟨⟨h6, h7⟩, h8⟩, h9⟩, h10⟩ := h
      obtain ⟨b1, b2⟩ := head_ g.N g.sc h1
      have om := own_map Z.N (slotsT tg ++ ownG (.for_ tg1 it1 c1 (.elt e1)))
      have key := e_comp2 (pos := pos) (elt := elt) (C := Z.C) (mi := evi Φ Γ false it) (tg := tg) (mc := ev Φ Γ c) (mi1 := evi Φ Γ true it1) (tg1 := tg1) (mc1 := ev Φ Γ c1) (me := ev Φ Γ e1) (vs1 := slotsT tg1 ++ ownG (.elt e1)) g.calm g.nd (sndI it g h2 false) b1 (by rw [om]; intro i hi; exact List.mem_append_right _ hi)
        (fun s H A cl fp => g_of (g.blk s H scope A cl fp) h4) (fun s H A cl fp => ifs_ok h5 fun x hx => snd c (g.blk s H scope A cl fp) hx)
        (fun s H A cl fp => sndI it1 (g.blk s H scope A cl fp) h6 true) (fun s H A cl fp => g_of (g.blk s H scope A cl fp) h8) (fun s H A cl fp => ifs_ok h9 fun x hx => snd c1 (g.blk s H scope A cl fp) hx)
        (fun s H A cl fp => (snd e1 (g.blk s H scope A cl fp) h10).pe) (noSet_ h3 _) (fun env => noSet_ h7 env) (by rw [om]; exact b2) (by rw [om]; intro i hi; exact List.mem_append_left _ hi) (fun i hi => List.mem_append_left _ hi)
      rw [om] at key
      exact .val key (fun _ => rfl) (fun _ _ _ z => by cases z)
    · cases h
  | .comp tg it c (.for_ tg1 it1 c1 (.for_ _ _ _ _)), X, q, sc, e, g, h => by
    unfold chk at h
    split at h <;> simp at h
theorem snds : ∀ (ts : Ts) {X : Cx} {q : Str → Bool} {sc : Scope} {es : List Expr}, Good X Z q sc Φ Γ → chks Z ts q sc es = true → PA X es (rA Z.C X.K (evs Φ Γ ts))
  | .nil, X, q, sc, es, g, h => by
    unfold chks at h
    split at h
    · exact a_nil
    · cases h
  | .cons t ts, X, q, sc, es, g, h => by
    unfold chks at h
    split at h
    · simp only [Bool.and_eq_true] at h
      exact a_cons (snd t g h.1.1).pe (snds ts g h.2) (noStar_ h.1.2)
    · cases h
  | .star t ts, X, q, sc, es, g, h => by
    unfold chks at h
    split at h
    · simp only [Bool.and_eq_true] at h
      exact a_star (snd t g h.1).pe (snds ts g h.2)
    · cases h
theorem sndps : ∀ (ts : Ts) (ks : List Str) {X : Cx} {q : Str → Bool} {sc : Scope} {keys : List (Option Expr)} {values : List Expr} {pos : Pos}, Good X Z q sc Φ Γ → chkKs ks keys = true → lenD ks ts = true → chks Z ts q sc values = true → values.all noStar = true →
    PPs X pos keys values (trsD Z.C X.K Φ Γ ks ts) ∧ keys.length = values.length ∧ keys.length = ks.length ∧ ∀ k ∈ ks, k.length ≤ big
  | .nil, [], X, q, sc, keys, values, pos, g, hk, hl, hv, hs => by
    cases keys with
    | cons _ _ => simp [chkKs] at hk
    | nil =>
      cases values with
      | cons _ _ => simp [chks] at hv
      | nil => exact ⟨pps_nil, rfl, rfl, fun k h => by simp at h⟩
  | .nil, k :: ks, X, q, sc, keys, values, pos, g, hk, hl, hv, hs => nomatch hl
  | .star t ts, ks, X, q, sc, keys, values, pos, g, hk, hl, hv, hs => by
    unfold chks at hv
    split at hv
    · cases hs
    · cases hv
  | .cons t ts, [], X, q, sc, keys, values, pos, g, hk, hl, hv, hs => nomatch hl
  | .cons t ts, k :: ks, X, q, sc, keys, values, pos, g, hk, hl, hv, hs => by
    cases keys with
    | nil => simp [chkKs] at hk
    | cons e r =>
      cases e with
      | none => simp [chkKs] at hk
      | some e =>
        cases e <;> first | (simp [chkKs] at hk; done) | skip
        rename_i c _ _
        cases c <;> first | (simp [chkKs] at hk; done) | skip
        simp only [chkKs, Bool.and_eq_true, decide_eq_true_eq] at hk
        obtain ⟨⟨rfl, hb⟩, hk⟩ := hk
        cases values with
        | nil => simp [chks] at hv
        | cons v vs =>
          simp only [chks, Bool.and_eq_true] at hv
          rw [List.all_cons, Bool.and_eq_true] at hs
          obtain ⟨h1, h3, h4, h5⟩ := sndps ts ks (pos := pos) g hk (by simpa [lenD] using hl) hv.2 hs.2
          refine ⟨pps_cons pe_str (snd t g hv.1.1).pe h1, by simp [h3], by simp [h4], fun k' hk' => ?_⟩
          rcases List.mem_cons.mp hk' with rfl | hk'
          · exact hb
          · exact h5 k' hk'
theorem sndI : ∀ (i : I) {X : Cx} {q : Str → Bool} {sc : Scope} {tg e : Expr}, Good X Z q sc Φ Γ → chkI Z i q sc tg e = true → ∀ st, PI X tg e (rI Z.C X.K st (evi Φ Γ st i))
  | .ex t, X, q, sc, tg, e, g, h, st => by
    unfold chkI at h
    exact i_ex (snd t g h).pe
  | .rng t, X, q, sc, tg, e, g, h, st => by
    unfold chkI at h
    split at h
    · simp only [Bool.and_eq_true, decide_eq_true_eq] at h
      obtain ⟨⟨⟨rfl, h1⟩, h2⟩, h3⟩ := h
      exact i_rng (g.gl h1) (g.fre _ (by decide)) (snd t g h3).pe (noStar_ h2)
    · cases h
  | .zip a b, X, q, sc, tg, e, g, h, st => by
    unfold chkI at h
    split at h
    · simp only [Bool.and_eq_true, decide_eq_true_eq] at h
      obtain ⟨⟨⟨⟨⟨⟨rfl, h1⟩, h2⟩, h3⟩, h4⟩, h5⟩, h6⟩ := h
      unfold isTupE at h6
      split at h6
      · exact i_zip (g.gl h1) (g.fre _ (by decide)) (snd a g h4).pe (snd b g h5).pe (noStar_ h2) (noStar_ h3)
      · cases h6
    · cases h
  | .enum a, X, q, sc, tg, e, g, h, st => by
    unfold chkI at h
    split at h
    · simp only [Bool.and_eq_true, decide_eq_true_eq] at h
      obtain ⟨⟨⟨⟨rfl, h1⟩, h2⟩, h3⟩, h4⟩ := h
      unfold isTupE at h4
      split at h4
      · exact i_enumLT (g.gl h1) (g.fre _ (by decide)) (snd a g h3).pe (noStar_ h2)
      · cases h4
    · cases h
  | .revr t, X, q, sc, tg, e, g, h, st => by
    unfold chkI at h
    split at h
    · simp only [Bool.and_eq_true, decide_eq_true_eq] at h
      obtain ⟨⟨⟨⟨⟨rfl, rfl⟩, h1⟩, h2⟩, h3⟩, h4⟩ := h
      exact i_revr (g.gl h1) (g.fre _ (by decide)) (g.gl h2) (g.fre _ (by decide)) (snd t g h3).pe (noStar_ h4)
    · cases h
end
end
end Ev

set_option Elab.async false
set_option linter.all false
set_option maxRecDepth 100000
set_option maxHeartbeats 1000000
/-! EvL: statements do what the evaluator says. -/
namespace Ev
open PySem PySem.Spec PyProof.Rows L2
abbrev tF (ta : Addr → Prop) (H₀ : Hp) : Addr → Prop := fun a => ta a ∨ H₀ a = none
/-- between the statements of a body that began at G₀, H₀; ta: the list that the caller lets it change -/
structure Fn (K : PySem.W.Frag) (C : Option Nat) (ta : Addr → Prop) (G₀ H₀ : Hp) (ρ : Env) (t : Tape) (G : Hp) (σ : L2.St) (H : Hp) : Prop where
  env : EnvOk K C ρ t G σ H
  ext : Ext (tF ta H₀) G₀ H₀ G H
  new : ∀ (i : Nat) (xs : List PyData) (a : Addr), ρ[i]? = some (some (R.own xs)) → σ[i]? = some (some (V.ref a)) → H₀ a = none
  tp : ∀ a, tad C σ a → tF ta H₀ a
  tq : ∀ a, ta a → tad C σ a
  tr : ∀ (i : Nat) (r : R), C = some i → ρ[i]? ≠ some (some r)
section
variable {K : PySem.W.Frag} {C : Option Nat} {ta : Addr → Prop} {G₀ H₀ : Hp} {ρ ρ' : Env} {t t' : Tape} {G H G' H' : Hp} {σ σ' : L2.St}
theorem Ext.strip0 (x : Ext (tF ta H₀) G₀ H₀ G H) : Ext ta G₀ H₀ G H :=
  ⟨x.g, fun a o e n => x.h a o e (fun z => z.elim n fun z => absurd (e.symm.trans z) (fun y => by cases y)), x.t, x.n, x.le⟩
theorem Fn.step (f : Fn K C ta G₀ H₀ ρ t G σ H) (y : Ext (tad C σ) G H G' H') (e : EnvOk K C ρ t' G' σ H') : Fn K C ta G₀ H₀ ρ t' G' σ H' :=
  ⟨e, f.ext.trans (y.weak f.tp), f.new, f.tp, f.tq, f.tr⟩
theorem tr_set {i j : Nat} {r r' : R} {o : Option R} (hC : C ≠ some i) (tr : ∀ (i : Nat) (r : R), C = some i → ρ[i]? ≠ some (some r)) (h : C = some j) : (ρ.set i o)[j]? ≠ some (some r) := fun z => by
  rw [List.getElem?_set_ne fun z => hC (by rw [h, z])] at z
  exact tr j r h z
theorem Fn.setv (f : Fn K C ta G₀ H₀ ρ t G σ H) {i : Nat} {v : V} {d : PyData} (hC : C ≠ some i) (r : Rp K G v d) : Fn K C ta G₀ H₀ (ρ.set i (some (.val d))) t G (σ.set i (some v)) H where
  env := f.env.setv hC r
  ext := f.ext
  new := fun j xs a h1 h2 => by
    rcases get_set h1 with ⟨rfl, hq⟩ | ⟨hi, hq⟩
    · cases hq
    · rw [List.getElem?_set_ne hi] at h2
      exact f.new j xs a hq h2
  tp := fun a h => f.tp a ((tad_set hC).1 h)
  tq := fun a h => (tad_set hC).2 (f.tq a h)
  tr := fun j r h => tr_set (r' := .val d) hC f.tr h
theorem EnvOk.aparts (e : EnvOk K C ρ t G σ H) {D : Addr} (h : H D = none) : Apart C D ρ σ where
  own := fun i xs h1 h2 => by
    obtain ⟨b, k1, k2⟩ := e.own i xs h1
    rw [h2] at k1
    cases k1
    exact k2.there h
  tap := fun h1 => (e.tp2 D h1).there h
theorem EnvOk.setO (e : EnvOk K C ρ t G σ H) {i : Nat} {a : Addr} {xs : List PyData} (hC : C ≠ some i) (o : OwnAt K G H a xs) (ap : Apart C a ρ σ) : EnvOk K C (ρ.set i (some (.own xs))) t G (σ.set i (some (.ref a))) H where
  le := e.le
  len := by rw [List.length_set, List.length_set]; exact e.len
  val := fun j d' h => by
    rcases get_set h with ⟨rfl, hq⟩ | ⟨hi, hq⟩
    · cases hq
    · obtain ⟨w, h1, h2⟩ := e.val j d' hq
      exact ⟨w, by rw [List.getElem?_set_ne hi]; exact h1, h2⟩
  own := fun j ys h => by
    rcases get_set h with ⟨rfl, hq⟩ | ⟨hi, hq⟩
    · cases hq
      have hl : i < σ.length := by
        rw [← e.len]
        by_cases hv : i < ρ.length
        · exact hv
        · rw [List.getElem?_eq_none (by simpa using hv)] at h
          cases h
      exact ⟨a, List.getElem?_set_self hl, o⟩
    · obtain ⟨w, h1, h2⟩ := e.own j ys hq
      exact ⟨w, by rw [List.getElem?_set_ne hi]; exact h1, h2⟩
  nob := fun j ys h => by
    rcases get_set h with ⟨rfl, hq⟩ | ⟨hi, hq⟩
    · cases hq
    · exact e.nob j ys hq
  apart := fun j k ys zs b hjk h1 h2 h3 h4 => by
    rcases get_set h1 with ⟨rfl, q1⟩ | ⟨n1, q1⟩
    · rcases get_set h2 with ⟨rfl, q2⟩ | ⟨n2, q2⟩
      · exact hjk rfl
      · rw [List.getElem?_set_ne n2] at h4
        rcases get_set h3 with ⟨_, q3⟩ | ⟨n3, q3⟩
        · cases q3
          exact ap.own k zs q2 h4
        · exact n3 rfl
    · rw [List.getElem?_set_ne n1] at h3
      rcases get_set h2 with ⟨rfl, q2⟩ | ⟨n2, q2⟩
      · rcases get_set h4 with ⟨_, q4⟩ | ⟨n4, q4⟩
        · cases q4
          exact ap.own j ys q1 h3
        · exact n4 rfl
      · rw [List.getElem?_set_ne n2] at h4
        exact e.apart j k ys zs b hjk q1 q2 h3 h4
  tp1 := fun h => let ⟨a, q⟩ := e.tp1 h; ⟨a, (tad_set hC).2 q⟩
  tp2 := fun a h => e.tp2 a ((tad_set hC).1 h)
  tp3 := fun b j ys h1 h2 h3 => by
    rcases get_set h2 with ⟨rfl, q2⟩ | ⟨n2, q2⟩
    · rcases get_set h3 with ⟨_, q3⟩ | ⟨n3, q3⟩
      · cases q3
        exact ap.tap ((tad_set hC).1 h1)
      · exact n3 rfl
    · rw [List.getElem?_set_ne n2] at h3
      exact e.tp3 b j ys ((tad_set hC).1 h1) q2 h3
theorem Fn.setO (f : Fn K C ta G₀ H₀ ρ t G σ H) {i : Nat} {a : Addr} {xs : List PyData} (hC : C ≠ some i) (o : OwnAt K G H a xs) (ap : Apart C a ρ σ) (h0 : H₀ a = none) : Fn K C ta G₀ H₀ (ρ.set i (some (.own xs))) t G (σ.set i (some (.ref a))) H where
  env := f.env.setO hC o ap
  ext := f.ext
  new := fun j ys b h1 h2 => by
    rcases get_set h1 with ⟨rfl, hq⟩ | ⟨hi, hq⟩
    · rcases get_set h2 with ⟨_, q2⟩ | ⟨n2, q2⟩
      · cases q2
        exact h0
      · exact absurd rfl n2
    · rw [List.getElem?_set_ne hi] at h2
      exact f.new j ys b hq h2
  tp := fun a h => f.tp a ((tad_set hC).1 h)
  tq := fun a h => (tad_set hC).2 (f.tq a h)
  tr := fun j r h => tr_set (r' := .own xs) hC f.tr h
/-- a name's own list is changed -/
theorem Fn.updO (f : Fn K C ta G₀ H₀ ρ t G σ H) {i : Nat} {a : Addr} {xs ys : List PyData} {vs : List V} (h1 : ρ[i]? = some (some (R.own xs))) (h2 : σ[i]? = some (some (V.ref a))) (r : RpAll K G vs ys) (z : ys.length ≤ big) : Fn K C ta G₀ H₀ (ρ.set i (some (.own ys))) t G σ (upd H a (.lst vs)) := by
  obtain ⟨b, k1, ow⟩ := f.env.own i xs h1
  rw [h2] at k1
  cases k1
  have hg := ow.g
  have oth : ∀ {b : Addr} {zs : List PyData}, b ≠ a → OwnAt K G H b zs → OwnAt K G (upd H a (.lst vs)) b zs := fun {b zs} hb ⟨g, ⟨ws, h, rr⟩, zz⟩ => ⟨g, ⟨ws, by rw [upd_ne hb]; exact h, rr⟩, zz⟩
  have hCi : C ≠ some i := fun z => f.tr i _ z h1
  refine ⟨⟨?_, ?_, ?_, ?_, ?_, ?_, f.env.tp1, ?_, ?_⟩, f.ext.updD (.inr (f.new i xs a h1 h2)) hg, ?_, f.tp, f.tq, fun j r h => tr_set (r' := .own ys) hCi f.tr h⟩
  · exact fun b u q => by rw [upd_ne (ne_of_none q hg)]; exact f.env.le b u q
  · rw [List.length_set]; exact f.env.len
  · intro j d h
    rcases get_set h with ⟨rfl, hq⟩ | ⟨hi, hq⟩
    · cases hq
    · exact f.env.val j d hq
  · intro j zs h
    rcases get_set h with ⟨rfl, hq⟩ | ⟨hi, hq⟩
    · cases hq
      exact ⟨a, h2, hg, ⟨vs, upd_same, r⟩, z⟩
    · obtain ⟨b, q1, q2⟩ := f.env.own j zs hq
      exact ⟨b, q1, oth (fun e => f.env.apart i j xs zs a hi h1 hq h2 (by rw [← e]; exact q1)) q2⟩
  · intro j zs h
    rcases get_set h with ⟨rfl, hq⟩ | ⟨hi, hq⟩
    · cases hq
    · exact f.env.nob j zs hq
  · intro j k us ws b hjk q1 q2 q3 q4
    have ex : ∀ {j us}, (ρ.set i (some (R.own ys)))[j]? = some (some (R.own us)) → ∃ us', ρ[j]? = some (some (R.own us')) := fun {j us} h => by
      rcases get_set h with ⟨rfl, _⟩ | ⟨_, hq⟩
      · exact ⟨xs, h1⟩
      · exact ⟨us, hq⟩
    obtain ⟨us', p1⟩ := ex q1
    obtain ⟨ws', p2⟩ := ex q2
    exact f.env.apart j k us' ws' b hjk p1 p2 q3 q4
  · intro b hb
    exact oth (fun e => f.env.tp3 b i xs hb h1 (by rw [e]; exact h2)) (f.env.tp2 b hb)
  · intro b j zs hb q1 q2
    rcases get_set q1 with ⟨rfl, _⟩ | ⟨_, hq⟩
    · exact f.env.tp3 b i xs hb h1 q2
    · exact f.env.tp3 b j zs hb hq q2
  · intro j zs b q1 q2
    rcases get_set q1 with ⟨rfl, _⟩ | ⟨_, hq⟩
    · exact f.new i xs b h1 q2
    · exact f.new j zs b hq q2
/-- the drawing list is changed -/
theorem Fn.updT (f : Fn K C ta G₀ H₀ ρ t G σ H) {a : Addr} {t' : Tape} {vs : List V} (h2 : tad C σ a) (r : RpAll K G vs t') (z : t'.length ≤ big) : Fn K C ta G₀ H₀ ρ t' G σ (upd H a (.lst vs)) := by
  have hg := (f.env.tp2 a h2).g
  refine ⟨⟨?_, f.env.len, f.env.val, ?_, f.env.nob, f.env.apart, fun _ => ⟨a, h2⟩, ?_, f.env.tp3⟩, f.ext.updD (f.tp a h2) hg, f.new, f.tp, f.tq, f.tr⟩
  · exact fun b u q => by rw [upd_ne (ne_of_none q hg)]; exact f.env.le b u q
  · intro j zs h
    obtain ⟨b, q1, ⟨g, ⟨ws, h, rr⟩, zz⟩⟩ := f.env.own j zs h
    rename_i hj
    exact ⟨b, q1, g, ⟨ws, by rw [upd_ne fun e => f.env.tp3 a j zs h2 hj (by rw [← e]; exact q1)]; exact h, rr⟩, zz⟩
  · intro b hb
    have := tad_one hb h2
    subst this
    exact ⟨hg, ⟨vs, upd_same, r⟩, z⟩
theorem setAll_out : ∀ {is : List Nat} {ds : List PyData} {ρ ρ' : Env} {j : Nat}, setAll is ds ρ = some ρ' → j ∉ is → ρ'[j]? = ρ[j]?
  | [], [], ρ, ρ', j, h, _ => by cases h; rfl
  | [], _ :: _, ρ, ρ', j, h, _ => by cases h
  | i :: is, [], ρ, ρ', j, h, _ => by cases h
  | i :: is, d :: ds, ρ, ρ', j, h, hj => by
    rw [setAll_out (show setAll is ds (ρ.set i (some (.val d))) = some ρ' from h) fun m => hj (List.mem_cons_of_mem _ m), List.getElem?_set_ne fun e => hj (by rw [e]; exact List.mem_cons_self)]
theorem setAll_own : ∀ {is : List Nat} {ds : List PyData} {ρ ρ' : Env} {j : Nat} {xs : List PyData}, setAll is ds ρ = some ρ' → ρ'[j]? = some (some (R.own xs)) → ρ[j]? = some (some (R.own xs)) ∧ j ∉ is
  | [], [], ρ, ρ', j, xs, h, e => by cases h; exact ⟨e, by simp⟩
  | [], _ :: _, ρ, ρ', j, xs, h, _ => by cases h
  | i :: is, [], ρ, ρ', j, xs, h, _ => by cases h
  | i :: is, d :: ds, ρ, ρ', j, xs, h, e => by
    obtain ⟨h1, h2⟩ := setAll_own (show setAll is ds (ρ.set i (some (.val d))) = some ρ' from h) e
    rcases get_set h1 with ⟨rfl, hq⟩ | ⟨hi, hq⟩
    · cases hq
    · exact ⟨hq, by simp only [List.mem_cons, not_or]; exact ⟨fun e => hi e.symm, h2⟩⟩
theorem bindT_out {tg : Tgt} {d : PyData} {j : Nat} (h : bindT tg d ρ = some ρ') (hj : j ∉ slotsT tg) : ρ'[j]? = ρ[j]? := by
  cases tg with
  | name i =>
    cases h
    exact List.getElem?_set_ne fun e => hj (by rw [e]; exact List.mem_cons_self)
  | tup is =>
    simp only [bindT] at h
    split at h
    · exact setAll_out h hj
    · cases h
theorem bindT_own {tg : Tgt} {d : PyData} {j : Nat} {xs : List PyData} (h : bindT tg d ρ = some ρ') (e : ρ'[j]? = some (some (R.own xs))) : ρ[j]? = some (some (R.own xs)) ∧ j ∉ slotsT tg := by
  cases tg with
  | name i =>
    cases h
    rcases get_set e with ⟨rfl, hq⟩ | ⟨hi, hq⟩
    · cases hq
    · exact ⟨hq, by simp only [slotsT, List.mem_singleton]; exact fun e => hi e.symm⟩
  | tup is =>
    simp only [bindT] at h
    split at h
    · exact setAll_own h e
    · cases h
theorem Fn.bind (f : Fn K C ta G₀ H₀ ρ t G σ H) {tg : Tgt} {d : PyData} (hb : bindT tg d ρ = some ρ') (e : EnvOk K C ρ' t G σ' H) (hw : ∀ vs, (∀ i ∈ slotsT tg, i ∈ vs) → wipe σ' vs = wipe σ vs) (ht : ∀ a, tad C σ' a ↔ tad C σ a) (hC : ∀ i, C = some i → i ∉ slotsT tg) : Fn K C ta G₀ H₀ ρ' t G σ' H where
  env := e
  ext := f.ext
  new := fun j xs a h1 h2 => by
    obtain ⟨k1, k2⟩ := bindT_own hb h1
    have w := hw (slotsT tg) fun _ h => h
    have e1 : σ'[j]? = σ[j]? := by rw [← wipe_out (σ := σ') k2, w, wipe_out k2]
    exact f.new j xs a k1 (by rw [← e1]; exact h2)
  tp := fun a h => f.tp a ((ht a).1 h)
  tq := fun a h => (ht a).2 (f.tq a h)
  tr := fun j r h z => f.tr j r h (by rw [← bindT_out hb (hC j h)]; exact z)
end

/-- what a statement does -/
def rSt (K : PySem.W.Frag) (C : Option Nat) (ta : Addr → Prop) (G₀ H₀ : Hp) (m : Env → M Out) : TS := fun D σ H => ∃ ρ t G o ρ' t', Fn K C ta G₀ H₀ ρ t G σ H ∧ m ρ t = some ((o, ρ'), t') ∧
  (o = none → ∀ G' σ' H', Fn K C ta G₀ H₀ ρ' t' G' σ' H' → Le G G' → D.nx σ' H') ∧
  (∀ r, o = some r → ∀ v G' H', Ext ta G₀ H₀ G' H' → (∀ a, ta a → OwnAt K G' H' a t') → RR K H₀ G' H' v r → D.rt v H')
theorem _root_.L2.PSs.imp {X : Cx} {e : List Stmt} {t t' : TS} (h : PSs X e t) (w : ∀ D σ H, t' D σ H → t D σ H) : PSs X e t' := ⟨fun pins s σ H Q I q => h.run pins s σ H Q I (w Q σ H q)⟩
section
variable {X : Cx} {C : Option Nat} {ta : Addr → Prop} {G₀ H₀ : Hp} {pos : Pos}
theorem ss_nil : PSs X [] (rSt X.K C ta G₀ H₀ fun ρ => ret (none, ρ)) := pss_nil.imp fun D σ H ⟨ρ, t, G, o, ρ', t', f, h, k1, k2⟩ => by
  cases h
  exact k1 rfl G σ H f Le.rfl
abbrev mSeq (m1 m2 : Env → M Out) : Env → M Out := fun ρ => bnd (m1 ρ) fun o => match o with
    | (none, ρ') => m2 ρ'
    | (some r, ρ') => ret (some r, ρ')
theorem seq_of2 {K : PySem.W.Frag} {m1 m2 : Env → M Out} {D : Ends} {σ : L2.St} {H : Hp} (h : rSt K C ta G₀ H₀ (mSeq m1 m2) D σ H) : rSt K C ta G₀ H₀ m1 { D with nx := rSt K C ta G₀ H₀ m2 D } σ H := by
  obtain ⟨ρ, t, G, o, ρ', t', f, h, k1, k2⟩ := h
  obtain ⟨⟨o1, ρ1⟩, t1, h1, h2⟩ := bnd_some h
  cases o1 with
  | none => exact ⟨ρ, t, G, none, ρ1, t1, f, h1, fun _ G1 σ1 H1 f1 l1 => ⟨ρ1, t1, G1, o, ρ', t', f1, h2, fun e G2 σ2 H2 f2 l2 => k1 e G2 σ2 H2 f2 (l1.trans l2), k2⟩, fun r e => by cases e⟩
  | some r =>
    obtain ⟨e, rfl⟩ := ret_some h2
    cases e
    exact ⟨ρ, t, G, some r, _, _, f, h1, (fun e => by cases e), fun r' e => k2 r' e⟩
theorem ss_cons {s : Stmt} {ss : List Stmt} {m1 m2 : Env → M Out} (h1 : PS X s (rSt X.K C ta G₀ H₀ m1)) (h2 : PSs X ss (rSt X.K C ta G₀ H₀ m2)) : PSs X (s :: ss) (rSt X.K C ta G₀ H₀ (mSeq m1 m2)) :=
  (pss_cons h1 h2).imp fun D σ H h => seq_of2 h
/-- a list that a name held alone stands for ever now -/
theorem Fn.frz {K : PySem.W.Frag} {ρ : Env} {t : Tape} {G H : Hp} {σ : L2.St} {i : Nat} {xs : List PyData} (f : Fn K C ta G₀ H₀ ρ t G σ H) (h : ρ[i]? = some (some (R.own xs))) : ∃ G', Le G G' ∧ Fn K C ta G₀ H₀ (ρ.set i (some (.val (.list xs)))) t G' σ H := by
  obtain ⟨a, h2, ⟨g, ⟨vs, hv, r⟩, z⟩⟩ := f.env.own i xs h
  have l : Le G (upd G a (.lst vs)) := Le.upd g
  have hCi : C ≠ some i := fun z => f.tr i _ z h
  refine ⟨upd G a (.lst vs), l, ⟨⟨f.env.le.upd2 hv, ?_, ?_, ?_, ?_, ?_, f.env.tp1, ?_, ?_⟩, f.ext.frz (f.new i xs a h h2) g hv, ?_, f.tp, f.tq, fun j r h => tr_set (r' := .own xs) hCi f.tr h⟩⟩
  · rw [List.length_set]; exact f.env.len
  · intro j d hj
    rcases get_set hj with ⟨rfl, hq⟩ | ⟨hi, hq⟩
    · cases hq
      exact ⟨.ref a, h2, .lst (.inl (.inl upd_same)) (RpAll.mono l _ _ r) z⟩
    · obtain ⟨v, q1, q2⟩ := f.env.val j d hq
      exact ⟨v, q1, Rp.mono l _ _ q2⟩
  · intro j zs hj
    rcases get_set hj with ⟨rfl, hq⟩ | ⟨hi, hq⟩
    · cases hq
    · obtain ⟨b, q1, ⟨g2, ⟨ws, hw, rr⟩, zz⟩⟩ := f.env.own j zs hq
      exact ⟨b, q1, by rw [upd_ne fun e => f.env.apart i j xs zs a hi h hq h2 (by rw [← e]; exact q1)]; exact g2, ⟨ws, hw, RpAll.mono l _ _ rr⟩, zz⟩
  · intro j zs hj
    rcases get_set hj with ⟨rfl, hq⟩ | ⟨hi, hq⟩
    · cases hq
    · exact f.env.nob j zs hq
  · intro j k us ws b hjk q1 q2 q3 q4
    rcases get_set q1 with ⟨rfl, hq⟩ | ⟨hi, hq⟩
    · cases hq
    · rcases get_set q2 with ⟨rfl, hq2⟩ | ⟨hi2, hq2⟩
      · cases hq2
      · exact f.env.apart j k us ws b hjk hq hq2 q3 q4
  · intro b hb
    obtain ⟨g2, ⟨ws, hw, rr⟩, zz⟩ := f.env.tp2 b hb
    exact ⟨by rw [upd_ne fun e => f.env.tp3 b i xs hb h (by rw [e]; exact h2)]; exact g2, ⟨ws, hw, RpAll.mono l _ _ rr⟩, zz⟩
  · intro b j zs hb q1 q2
    rcases get_set q1 with ⟨rfl, hq⟩ | ⟨_, hq⟩
    · cases hq
    · exact f.env.tp3 b j zs hb hq q2
  · intro j zs b q1 q2
    rcases get_set q1 with ⟨rfl, hq⟩ | ⟨_, hq⟩
    · cases hq
    · exact f.new j zs b hq q2
theorem ownAt_some {ρ : Env} {i : Nat} {xs : List PyData} (h : ownAt ρ i = some xs) : ρ[i]? = some (some (R.own xs)) := by
  unfold ownAt at h
  split at h
  · cases h
    assumption
  · cases h
theorem ss_frz {i : Nat} {ss : List Stmt} {m2 : Env → M Out} (h2 : PSs X ss (rSt X.K C ta G₀ H₀ m2)) : PSs X ss (rSt X.K C ta G₀ H₀ (mSeq (fun ρ => lift ((ownAt ρ i).map fun xs => (none, ρ.set i (some (.val (.list xs)))))) m2)) := h2.imp fun D σ H h => by
  obtain ⟨ρ, t, G, o, ρ', t', f, h, k1, k2⟩ := seq_of2 h
  obtain ⟨h3, rfl⟩ := lift_some' h
  cases hq : ownAt ρ i with
  | none => rw [hq] at h3; cases h3
  | some xs =>
    rw [hq] at h3
    cases h3
    obtain ⟨G', l, f'⟩ := f.frz (ownAt_some hq)
    exact k1 rfl G' σ H f' l
/-- the value that an expression gave, to stay -/
theorem fix_of {K : PySem.W.Frag} {ρ : Env} {t t' : Tape} {G H G1 H1 : Hp} {σ : L2.St} {v : V} {r : R} {d : PyData} (f : Fn K C ta G₀ H₀ ρ t G σ H) (x : Ext (tad C σ) G H G1 H1) (e : EnvOk K C ρ t' G1 σ H1) (q : RE K H G1 H1 ρ σ v r) (hd : r.fix = some d) :
    ∃ G2, Fn K C ta G₀ H₀ ρ t' G2 σ H1 ∧ Rp K G2 v d ∧ Le G G2 ∧ Ext (tad C σ) G H G2 H1 := by
  obtain ⟨nb, hy⟩ := fixes_spec (rs := [r]) (ds := [d]) (by simp [fixes, hd])
  obtain ⟨G2, x2, l2, rp⟩ := frz_from (vs := [v]) (rs := [r]) G1 x Le.rfl (.cons q .nil) nb
  rw [← hy] at rp
  cases rp with
  | cons rp _ => exact ⟨G2, f.step x2 (f.env.rebase e x2 l2), rp, x2.g, x2⟩
section
variable {m : Env → M R} {i : Nat} {s : Stmt}
abbrev mSet (m : Env → M R) (i : Nat) : Env → M Out := fun ρ => bnd (m ρ) fun r => lift (r.fix.map fun d => (none, ρ.set i (some (.val d))))
theorem s_set (h : PS X s (tAsg (rE C X.K m) (gName i))) (hC : C ≠ some i) : PS X s (rSt X.K C ta G₀ H₀ (mSet m i)) := h.imp fun D σ H ⟨ρ, t, G, o, ρ', t', f, h, k1, k2⟩ => by
  obtain ⟨r, t1, h1, h2⟩ := bnd_some h
  obtain ⟨h3, rfl⟩ := lift_some' h2
  cases hf : r.fix with
  | none => rw [hf] at h3; cases h3
  | some d =>
    rw [hf] at h3
    cases h3
    refine ⟨ρ, t, G, r, _, f.env, h1, fun v G1 H1 x1 e1 q => ?_⟩
    obtain ⟨G2, f2, rp, l2, _⟩ := fix_of f x1 e1 q hf
    exact k1 rfl G2 _ H1 (f2.setv hC rp) l2
abbrev mSetO (m : Env → M R) (i : Nat) : Env → M Out := fun ρ => bnd (m ρ) fun r => lift (match r with | .own xs => some (none, ρ.set i (some (.own xs))) | _ => none)
theorem s_setO (h : PS X s (tAsg (rE C X.K m) (gName i))) (hC : C ≠ some i) : PS X s (rSt X.K C ta G₀ H₀ (mSetO m i)) := h.imp fun D σ H ⟨ρ, t, G, o, ρ', t', f, h, k1, k2⟩ => by
  obtain ⟨r, t1, h1, h2⟩ := bnd_some h
  obtain ⟨h3, rfl⟩ := lift_some' h2
  cases r with
  | val d => cases h3
  | bor xs => cases h3
  | own xs =>
    cases h3
    refine ⟨ρ, t, G, _, _, f.env, h1, fun v G1 H1 x1 e1 q => ?_⟩
    obtain ⟨a, rfl, fr, ow⟩ := q
    exact k1 rfl G1 _ H1 ((f.step x1 e1).setO hC ow (f.env.aparts fr) (f.ext.fresh fr)) x1.g
abbrev mUnp (m : Env → M R) (is : List Nat) : Env → M Out := fun ρ => bnd (m ρ) fun r => lift (r.fix.bind fun d => (bindT (.tup is) d ρ).map fun ρ' => (none, ρ'))
theorem s_unp {is : List Nat} (h : PS X s (tAsg (rE C X.K m) (rG C X.K (.tup is)))) (hC : ∀ i, C = some i → i ∉ is) : PS X s (rSt X.K C ta G₀ H₀ (mUnp m is)) := h.imp fun D σ H ⟨ρ, t, G, o, ρ', t', f, h, k1, k2⟩ => by
  obtain ⟨r, t1, h1, h2⟩ := bnd_some h
  obtain ⟨h3, rfl⟩ := lift_some' h2
  cases hf : r.fix with
  | none => rw [hf] at h3; cases h3
  | some d =>
    rw [hf] at h3
    simp only [Option.bind_some] at h3
    cases hb : bindT (.tup is) d ρ with
    | none => rw [hb] at h3; cases h3
    | some ρ1 =>
      rw [hb] at h3
      cases h3
      refine ⟨ρ, t, G, r, _, f.env, h1, fun v G1 H1 x1 e1 q => ?_⟩
      obtain ⟨G2, f2, rp, l2, _⟩ := fix_of f x1 e1 q hf
      exact ⟨ρ, _, G2, d, _, f2.env, rp, hb, fun σ' e2 hw ht hp => k1 rfl G2 σ' H1 (f2.bind hb e2 hw ht hC) l2⟩
abbrev mFor (mi : Env → M (List PyData)) (tg : Tgt) (mb : Env → M Out) : Env → M Out := fun ρ => bnd (mi ρ) fun ds => forL (fun d ρ => bnd (lift (bindT tg d ρ)) fun ρ' => mb ρ') ds ρ
theorem s_for {tg : Tgt} {tgE iter : Expr} {body : List Stmt} {mi : Env → M (List PyData)} {mb : Env → M Out} (hp : PassesOwn (model X.prog X.w) X.A X.env X.xe) (hc : X.calm = true) (hi : PI X tgE iter (rI C X.K true mi)) (hg : PG X tgE (rG C X.K tg)) (hb : PSs X body (rSt X.K C ta G₀ H₀ mb))
    (hs : ∀ x, foldedSetIterable iter X.env x = pure x) (hC : ∀ i, C = some i → i ∉ slotsT tg) : PS X (.For tgE iter body [] pos) (rSt X.K C ta G₀ H₀ (mFor mi tg mb)) := (ps_for hp hc hi hg hb hs).imp fun D σ H ⟨ρ, t, G, o, ρ', t', f, h, k1, k2⟩ => by
  obtain ⟨ds, t1, h1, h2⟩ := bnd_some h
  refine ⟨ρ, t, G, ds, t1, f.env, h1, fun J G1 H1 x1 e1 wk z => ?_⟩
  have f1 := f.step x1 e1
  refine ⟨fun i m σ H => m = ds.length - i ∧ i ≤ ds.length ∧ ∃ ρ t G2, Fn X.K C ta G₀ H₀ ρ t G2 σ H ∧ Le G1 G2 ∧ forL (fun d ρ => bnd (lift (bindT tg d ρ)) fun ρ' => mb ρ') (ds.drop i) ρ t = some ((o, ρ'), t'), ⟨ds.length, rfl, Nat.zero_le _, ρ, t1, G1, f1, Le.rfl, h2⟩, ?_⟩
  rintro i m σ H ⟨rfl, hi, ρ, t, G2, f2, l2, run⟩
  have w := wk i G2 H ⟨l2, f2.env.le⟩
  by_cases hlt : i < ds.length
  · right
    rw [List.drop_eq_getElem_cons hlt] at run
    obtain ⟨⟨o1, ρ1⟩, t2, hf, hrest⟩ := bnd_some run
    obtain ⟨ρ3, t3, hb3, hmb⟩ := bnd_some hf
    obtain ⟨hb4, rfl⟩ := lift_some' hb3
    obtain ⟨go, yl⟩ := w.1 ds[i] (List.getElem?_eq_getElem hlt)
    refine ⟨go, fun σ H => ∃ m', m' < ds.length - i ∧ m' = ds.length - (i + 1) ∧ i + 1 ≤ ds.length ∧ ∃ ρ t G2, Fn X.K C ta G₀ H₀ ρ t G2 σ H ∧ Le G1 G2 ∧ forL (fun d ρ => bnd (lift (bindT tg d ρ)) fun ρ' => mb ρ') (ds.drop (i + 1)) ρ t = some ((o, ρ'), t'), fun σ' H' ⟨m', a, b⟩ => ⟨m', a, b⟩, fun x H' hy => ?_⟩
    obtain ⟨G3, x3, rp⟩ := yl x H' hy
    have f3 := f2.step x3.pure (f2.env.ext x3)
    refine ⟨ρ, _, G3, ds[i], ρ3, f3.env, rp, hb4, fun σ2 e2 hw ht _ => ?_⟩
    refine ⟨ρ3, _, G3, o1, ρ1, t2, f3.bind hb4 e2 hw ht hC, hmb, fun e G4 σ4 H4 f4 l4 => ?_, fun r e => ?_⟩
    · subst e
      exact ⟨_, by omega, rfl, hlt, ρ1, t2, G4, f4, (l2.trans x3.g).trans l4, hrest⟩
    · subst e
      obtain ⟨e5, rfl⟩ := ret_some hrest
      cases e5
      exact k2 r rfl
  · left
    have hi2 : i = ds.length := by omega
    subst hi2
    rw [List.drop_length] at run
    obtain ⟨e5, rfl⟩ := ret_some run
    cases e5
    exact ⟨w.2 (Nat.le_refl _), k1 rfl G2 σ H f2 (x1.g.trans l2)⟩
abbrev mWhile (mc : Env → M R) (mb : Env → M Out) : Env → M Out := fun ρ => whileL (fun ρ => bnd (mc ρ) fun x => lift (isTrueD x)) mb turns ρ
theorem s_while {c : Expr} {body : List Stmt} {mc : Env → M R} {mb : Env → M Out} (hp : PassesOwn (model X.prog X.w) X.A X.env X.xe) (hc : PT X c (rT C X.K mc)) (hb : PSs X body (rSt X.K C ta G₀ H₀ mb)) : PS X (.While c body [] pos) (rSt X.K C ta G₀ H₀ (mWhile mc mb)) := (ps_while hp hc hb).imp fun D σ H ⟨ρ, t, G, o, ρ', t', f, h, k1, k2⟩ => by
  refine ⟨fun m σ H => ∃ ρ t G2, Fn X.K C ta G₀ H₀ ρ t G2 σ H ∧ Le G G2 ∧ whileL (fun ρ => bnd (mc ρ) fun x => lift (isTrueD x)) mb m ρ t = some ((o, ρ'), t'), ⟨turns, ρ, t, G, f, Le.rfl, h⟩, ?_⟩
  rintro m σ H ⟨ρ, t, G2, f2, l2, run⟩
  cases m with
  | zero => cases run
  | succ m =>
    obtain ⟨b, t1, hc1, run⟩ := bnd_some run
    obtain ⟨x, t2, hx, hx2⟩ := bnd_some hc1
    obtain ⟨hx3, rfl⟩ := lift_some' hx2
    have := isTrue_val hx3
    subst this
    refine ⟨ρ, t, G2, b, _, f2.env, hx, fun G3 H3 x3 e3 => ?_⟩
    have f3 := f2.step x3 e3
    cases b with
    | false =>
      obtain ⟨e5, rfl⟩ := ret_some run
      cases e5
      exact k1 rfl G3 σ H3 f3 (l2.trans x3.g)
    | true =>
      obtain ⟨⟨o1, ρ1⟩, t4, hf, hrest⟩ := bnd_some run
      refine ⟨fun σ H => ∃ m', m' < m + 1 ∧ ∃ ρ t G2, Fn X.K C ta G₀ H₀ ρ t G2 σ H ∧ Le G G2 ∧ whileL (fun ρ => bnd (mc ρ) fun x => lift (isTrueD x)) mb m' ρ t = some ((o, ρ'), t'), fun σ' H' h => h, ?_⟩
      refine ⟨ρ, _, G3, o1, ρ1, t4, f3, hf, fun e G4 σ4 H4 f4 l4 => ?_, fun r e => ?_⟩
      · subst e
        exact ⟨m, Nat.lt_succ_self m, ρ1, t4, G4, f4, (l2.trans x3.g).trans l4, hrest⟩
      · subst e
        obtain ⟨e5, rfl⟩ := ret_some hrest
        cases e5
        exact k2 r rfl
abbrev mIf (mc : Env → M R) (ma mb : Env → M Out) : Env → M Out := fun ρ => bnd (mc ρ) fun x => bnd (lift (isTrueD x)) fun k => if k then ma ρ else mb ρ
theorem s_if {c : Expr} {a b : List Stmt} {mc : Env → M R} {ma mb : Env → M Out} (hc : PT X c (rT C X.K mc)) (ha : PSs X a (rSt X.K C ta G₀ H₀ ma)) (hb : PSs X b (rSt X.K C ta G₀ H₀ mb)) : PS X (.If c a b pos) (rSt X.K C ta G₀ H₀ (mIf mc ma mb)) := (ps_if hc ha hb).imp fun D σ H ⟨ρ, t, G, o, ρ', t', f, h, k1, k2⟩ => by
  obtain ⟨x, t1, h1, h2⟩ := bnd_some h
  obtain ⟨k, t2, h3, h4⟩ := bnd_some h2
  obtain ⟨h5, rfl⟩ := lift_some' h3
  have := isTrue_val h5
  subst this
  refine ⟨ρ, t, G, k, _, f.env, h1, fun G1 H1 x1 e1 => ?_⟩
  have f1 := f.step x1 e1
  cases k with
  | true => exact ⟨ρ, _, G1, o, ρ', t', f1, h4, fun e G2 σ2 H2 f2 l2 => k1 e G2 σ2 H2 f2 (x1.g.trans l2), k2⟩
  | false => exact ⟨ρ, _, G1, o, ρ', t', f1, h4, fun e G2 σ2 H2 f2 l2 => k1 e G2 σ2 H2 f2 (x1.g.trans l2), k2⟩
abbrev mRet (m : Env → M R) : Env → M Out := fun ρ => bnd (m ρ) fun r => ret (some (retR r), ρ)
theorem ret_of {K : PySem.W.Frag} {ρ : Env} {t t' : Tape} {G H G1 H1 : Hp} {σ : L2.St} {v : V} {r : R} (f : Fn K C ta G₀ H₀ ρ t G σ H) (x : Ext (tad C σ) G H G1 H1) (e : EnvOk K C ρ t' G1 σ H1) (q : RE K H G1 H1 ρ σ v r) : RR K H₀ G1 H1 v (retR r) := by
  cases r with
  | val d => exact q
  | own xs => obtain ⟨a, rfl, fr, ow⟩ := q; exact ⟨a, rfl, f.ext.fresh fr, ow⟩
  | bor xs =>
    obtain ⟨a, i, rfl, q1, q2⟩ := q
    obtain ⟨b, p1, p2⟩ := e.own i xs q2
    rw [q1] at p1
    cases p1
    exact ⟨a, rfl, f.new i xs a q2 q1, p2⟩
theorem s_ret {e : Expr} (h : PE X e (rE C X.K m)) : PS X (.Return (some e) pos) (rSt X.K C ta G₀ H₀ (mRet m)) := (ps_ret h).imp fun D σ H ⟨ρ, t, G, o, ρ', t', f, h, k1, k2⟩ => by
  obtain ⟨r, t1, h1, h2⟩ := bnd_some h
  obtain ⟨e, rfl⟩ := ret_some h2
  cases e
  refine ⟨ρ, t, G, r, _, f.env, h1, fun v G1 H1 x1 e1 q => ?_⟩
  have f1 := f.step x1 e1
  exact k2 _ rfl v G1 H1 f1.ext.strip0 (fun a ha => e1.tp2 a (f.tq a ha)) (ret_of f x1 e1 q)
theorem s_retN : PS X (.Return none pos) (rSt X.K C ta G₀ H₀ (mRet fun _ => ret (.val .none))) := ps_retN.imp fun D σ H ⟨ρ, t, G, o, ρ', t', f, h, k1, k2⟩ => by
  obtain ⟨r, t1, h1, h2⟩ := bnd_some h
  obtain ⟨rfl, rfl⟩ := ret_some h1
  obtain ⟨e, rfl⟩ := ret_some h2
  cases e
  exact k2 _ rfl .non G H f.ext.strip0 (fun a ha => f.env.tp2 a (f.tq a ha)) .non
theorem s_pass : PS X (.Pass pos) (rSt X.K C ta G₀ H₀ fun ρ => ret (none, ρ)) := ps_pass.imp fun D σ H ⟨ρ, t, G, o, ρ', t', f, h, k1, k2⟩ => by
  cases h
  exact k1 rfl G σ H f Le.rfl
end
end
end Ev

set_option Elab.async false
set_option linter.all false
set_option maxRecDepth 100000
set_option maxHeartbeats 1000000
/-! EvL2: statements that change a list. -/
namespace Ev
open PySem PySem.Spec PyProof.Rows L2
section
variable {X : Cx} {C : Option Nat} {ta : Addr → Prop} {G₀ H₀ : Hp} {pos : Pos} {m m2 : Env → M R} {i j : Nat} {e e2 : Expr} {x : Str} {px apos cpos : Pos}
theorem own_now {K : PySem.W.Frag} {ρ : Env} {t : Tape} {G H : Hp} {σ : L2.St} {xs : List PyData} {a : Addr} (e : EnvOk K C ρ t G σ H) (h : ρ[i]? = some (some (R.own xs))) (h2 : σ[i]? = some (some (V.ref a))) : OwnAt K G H a xs := by
  obtain ⟨b, k1, k2⟩ := e.own i xs h
  rw [h2] at k1
  cases k1
  exact k2
abbrev mApp (m : Env → M R) (i : Nat) : Env → M Out := fun ρ => bnd (lift (ownAt ρ i)) fun xs => bnd (m ρ) fun r => lift (r.fix.bind fun d => if xs.length < big then some (none, ρ.set i (some (.own (xs ++ [d])))) else none)
theorem s_app (hN : X.N[i]? = some x) (hv : Vis X.env.scope x) (hd : (x == ("__debug__" : Str)) = false) (hcd : (x == ("__classdict__" : Str)) = false) (he : PE X e (rE C X.K m)) (hn : ∀ x p, e ≠ .Starred x p) (hl : (apos.endLine == cpos.line) = true) :
    PS X (.Expr (.Call (.Attribute (.Name x px) "append" apos) [e] [] cpos) pos) (rSt X.K C ta G₀ H₀ (mApp m i)) := by
  refine (ps_expr (pe_bm PySem.F.plainAttrs_list PySem.F.slot_list_append PySem.F.type_list_append mt_append (pe_var hN hv hd hcd) (pa_cons he pa_nil (notStar_each hn)) rfl (by rw [notStar_each hn]; rfl) hl (notStar_each hn) rfl) rfl).imp ?_
  rintro D σ H ⟨ρ, t, G, o, ρ', t', f, h, k1, k2⟩
  obtain ⟨xs, t1, h1, h2⟩ := bnd_some h
  obtain ⟨h1', rfl⟩ := lift_some' h1
  obtain ⟨r, t2, h3, h4⟩ := bnd_some h2
  obtain ⟨h5, rfl⟩ := lift_some' h4
  have ho := ownAt_some h1'
  cases hf : r.fix with
  | none => rw [hf] at h5; cases h5
  | some d =>
    rw [hf] at h5
    simp only [Option.bind_some] at h5
    split at h5
    · rename_i hz
      cases h5
      obtain ⟨a, ha, ow⟩ := f.env.own i xs ho
      refine ⟨.ref a, ha, .inl ⟨rfl, ?_⟩, ρ, _, G, r, _, f.env, h3, fun v G1 H1 x1 e1 q => ?_⟩
      · obtain ⟨g, ⟨vs, hv, _⟩, _⟩ := ow
        exact ⟨vs, .inl (.of hv)⟩
      · obtain ⟨G2, f2, rp, l2, _⟩ := fix_of f x1 e1 q hf
        obtain ⟨g, ⟨vs, hv, rv⟩, z⟩ := own_now f2.env ho ha
        refine ⟨a, vs, v, rfl, rfl, hv, by rw [rv.length]; exact big_line hz, ?_⟩
        exact k1 rfl G2 σ _ (f2.updO ho ha (rv.append (.cons rp .nil)) (by rw [List.length_append]; exact hz)) l2
    · cases h5
abbrev mSeti (m : Env → M R) (i : Nat) (m2 : Env → M R) : Env → M Out := fun ρ => bnd (m ρ) fun r => bnd (lift (ownAt ρ i)) fun xs => bnd (m2 ρ) fun k => lift (r.fix.bind fun d => (intOf k).bind fun j => (setIx xs j d).map fun ys => (none, ρ.set i (some (.own ys))))
theorem plainAs {e : Expr} (h : plainI e = true) {tpos : Pos} {o : Expr} : ∀ v, assign (.Subscript o e tpos) X.env v = (do
      let ov ← holding [v] (eval o X.env)
      let iv ← holding [v, ov] (eval e X.env)
      standAt tpos
      holding [v, ov, iv] (setItem ov iv v)
      release [v, ov, iv] []) := by
  intro v
  cases e <;> first | (cases h; done) | rfl
theorem swapNo {e : Expr} {o y : Expr} {tpos : Pos} {l : Nat} : swapsWithSole [.Subscript o y tpos] e l X.env = pure false := by cases e <;> rfl
theorem storesNo {e : Expr} {o y : Expr} {tpos : Pos} : swappedStores [.Subscript o y tpos] e X.env = pure none := by cases e <;> rfl
theorem intOf_some {r : R} {k : Int} (h : intOf r = some k) : r = .val (.int k) := by
  unfold intOf at h
  split at h
  · cases h; rfl
  · cases h
theorem s_seti {tpos : Pos} (hN : X.N[i]? = some x) (hv : Vis X.env.scope x) (hd : (x == ("__debug__" : Str)) = false) (hcd : (x == ("__classdict__" : Str)) = false) (he : PE X e (rE C X.K m)) (hi : PE X e2 (rE C X.K m2)) (hp : plainI e2 = true) :
    PS X (.Assign [.Subscript (.Name x px) e2 tpos] e pos) (rSt X.K C ta G₀ H₀ (mSeti m i m2)) := by
  refine (ps_asg he (pg_sub (pe_var hN hv hd hcd) hi set_list (plainAs hp)) swapNo storesNo rfl).imp ?_
  rintro D σ H ⟨ρ, t, G, o, ρ', t', f, h, k1, k2⟩
  obtain ⟨r, t1, h1, h2⟩ := bnd_some h
  obtain ⟨xs, t2, h3, h4⟩ := bnd_some h2
  obtain ⟨h5, rfl⟩ := lift_some' h3
  obtain ⟨kk, t3, h6, h7⟩ := bnd_some h4
  obtain ⟨h8, rfl⟩ := lift_some' h7
  have ho := ownAt_some h5
  cases hf : r.fix with
  | none => rw [hf] at h8; cases h8
  | some d =>
    rw [hf] at h8
    simp only [Option.bind_some] at h8
    cases hk : intOf kk with
    | none => rw [hk] at h8; cases h8
    | some k =>
      rw [hk] at h8
      simp only [Option.bind_some, setIx] at h8
      have := intOf_some hk
      subst this
      cases hj : L2.ixN xs.length k with
      | none => rw [hj] at h8; cases h8
      | some j =>
        rw [hj] at h8
        cases h8
        refine ⟨ρ, t, G, r, _, f.env, h1, fun v G1 H1 x1 e1 q => ?_⟩
        obtain ⟨G2, f2, rp, l2, _⟩ := fix_of f x1 e1 q hf
        obtain ⟨a, ha, _⟩ := f2.env.own i xs ho
        refine ⟨.ref a, ha, ρ, _, G2, _, _, f2.env, h6, fun v2 G3 H3 x3 e3 q3 => ?_⟩
        cases q3
        have f3 := f2.step x3 e3
        obtain ⟨g, ⟨vs, hv, rv⟩, z⟩ := own_now f3.env ho ha
        refine ⟨a, vs, k, j, rfl, rfl, hv, by rw [rv.length]; exact hj, ?_⟩
        exact k1 rfl G3 σ _ (f3.updO ho ha (rv.set j (Rp.mono x3.g _ _ rp)) (by simpa using z)) (l2.trans x3.g)
abbrev mTset (m m2 : Env → M R) : Env → M Out := fun ρ => bnd (m ρ) fun r => needT (bnd (m2 ρ) fun k => fun t => match r.fix, intOf k with
      | some d, some j => match setIx t j d with
        | some t' => some ((none, ρ), t')
        | none => none
      | _, _ => none)
theorem tad_slot {σ : L2.St} {a : Addr} (hC : C = some i) (h : tad C σ a) : σ[i]? = some (some (V.ref a)) := by
  obtain ⟨j', e', q'⟩ := h
  rw [hC] at e'
  cases e'
  exact q'
theorem s_tset {tpos : Pos} (hC : C = some i) (hN : X.N[i]? = some x) (hv : Vis X.env.scope x) (hd : (x == ("__debug__" : Str)) = false) (hcd : (x == ("__classdict__" : Str)) = false) (he : PE X e (rE C X.K m)) (hi : PE X e2 (rE C X.K m2)) (hp : plainI e2 = true) :
    PS X (.Assign [.Subscript (.Name x px) e2 tpos] e pos) (rSt X.K C ta G₀ H₀ (mTset m m2)) := by
  refine (ps_asg he (pg_sub (pe_var hN hv hd hcd) hi set_list (plainAs hp)) swapNo storesNo rfl).imp ?_
  rintro D σ H ⟨ρ, t, G, o, ρ', t', f, h, k1, k2⟩
  obtain ⟨r, t1, h1, h2⟩ := bnd_some h
  obtain ⟨hne, h2⟩ := needT_some h2
  obtain ⟨kk, t3, h6, h7⟩ := bnd_some h2
  cases hf : r.fix with
  | none => rw [hf] at h7; cases h7
  | some d =>
    cases hk : intOf kk with
    | none => rw [hf, hk] at h7; cases h7
    | some k =>
      rw [hf, hk] at h7
      simp only [setIx] at h7
      have := intOf_some hk
      subst this
      cases hj : L2.ixN t3.length k with
      | none => rw [hj] at h7; cases h7
      | some j =>
        rw [hj] at h7
        cases h7
        refine ⟨ρ, t, G, r, _, f.env, h1, fun v G1 H1 x1 e1 q => ?_⟩
        obtain ⟨G2, f2, rp, l2, _⟩ := fix_of f x1 e1 q hf
        obtain ⟨a, ta1⟩ := f2.env.tp1 hne
        refine ⟨.ref a, tad_slot hC ta1, ρ, _, G2, _, _, f2.env, h6, fun v2 G3 H3 x3 e3 q3 => ?_⟩
        cases q3
        have f3 := f2.step x3 e3
        obtain ⟨g, ⟨vs, hv, rv⟩, z⟩ := f3.env.tp2 a ta1
        refine ⟨a, vs, k, j, rfl, rfl, hv, by rw [rv.length]; exact hj, ?_⟩
        exact k1 rfl G3 σ _ (f3.updT ta1 (rv.set j (Rp.mono x3.g _ _ rp)) (by simpa using z)) (l2.trans x3.g)
abbrev mTini (i : Nat) (m : Env → M R) : Env → M Out := fun ρ => bnd (m ρ) fun r => fun _ => match r with | .own (x :: xs) => if i < ρ.length then some ((none, ρ), x :: xs) else none | _ => none
theorem s_tini {s : Stmt} (hC : C = some i) (hta : ∀ a, ¬ ta a) (h : PS X s (tAsg (rE C X.K m) (gName i))) : PS X s (rSt X.K C ta G₀ H₀ (mTini i m)) := h.imp fun D σ H ⟨ρ, t, G, o, ρ', t', f, h, k1, k2⟩ => by
  obtain ⟨r, t1, h1, h2⟩ := bnd_some h
  cases r with
  | val d => cases h2
  | bor xs => cases h2
  | own xs =>
    cases xs with
    | nil => cases h2
    | cons y ys =>
      simp only at h2
      split at h2
      case isFalse => cases h2
      rename_i hl0
      cases h2
      have hl : i < σ.length := by rw [← f.env.len]; exact hl0
      refine ⟨ρ, t, G, _, _, f.env, h1, fun v G1 H1 x1 e1 q => ?_⟩
      obtain ⟨a, rfl, fr, ow⟩ := q
      have ap := f.env.aparts fr
      have hno : ∀ (j : Nat) (r : R), ρ[j]? = some (some r) → i ≠ j := fun j r hj z => f.tr i r hC (by rw [z]; exact hj)
      have one : ∀ b, tad C (σ.set i (some (V.ref a))) b → b = a := fun b hb => by
        have hb := tad_slot hC hb
        rcases get_set hb with ⟨_, hq⟩ | ⟨hi, _⟩
        · cases hq; rfl
        · exact absurd rfl hi
      have f1 := f.step x1 e1
      refine k1 rfl G1 _ H1 ⟨⟨e1.le, by rw [List.length_set]; exact e1.len, fun j d hj => ?_, fun j zs hj => ?_, e1.nob, fun j k us ws b hjk q1 q2 q3 q4 => ?_, fun _ => ⟨a, i, hC, List.getElem?_set_self hl⟩, fun b hb => by rw [one b hb]; exact ow, fun b j zs hb q1 q2 => ?_⟩, f1.ext, fun j zs b q1 q2 => ?_, fun b hb => ?_, fun b hb => absurd hb (hta b), f.tr⟩ x1.g
      · obtain ⟨v, p1, p2⟩ := e1.val j d hj
        exact ⟨v, by rw [List.getElem?_set_ne (hno j _ hj)]; exact p1, p2⟩
      · obtain ⟨v, p1, p2⟩ := e1.own j zs hj
        exact ⟨v, by rw [List.getElem?_set_ne (hno j _ hj)]; exact p1, p2⟩
      · rw [List.getElem?_set_ne (hno j _ q1)] at q3
        rw [List.getElem?_set_ne (hno k _ q2)] at q4
        exact e1.apart j k us ws b hjk q1 q2 q3 q4
      · rw [one b hb, List.getElem?_set_ne (hno j _ q1)] at q2
        exact ap.own j zs q1 q2
      · rw [List.getElem?_set_ne (hno j _ q1)] at q2
        exact f.new j zs b q1 q2
      · rw [one b hb]
        exact .inr (f.ext.fresh fr)
abbrev mAug (m : Env → M R) (i : Nat) (o : BOp) : Env → M Out := fun ρ => bnd (lift (slot ρ i)) fun x => bnd (m ρ) fun y => lift (match o, intOf x, intOf y with
      | .add, some a, some b => some (none, ρ.set i (some (.val (.int (a + b)))))
      | .sub, some a, some b => some (none, ρ.set i (some (.val (.int (a - b)))))
      | _, _, _ => none)
theorem s_aug {o : BOp} (hNd : X.N.Nodup) (hN : X.N[i]? = some x) (hv : L2.Loc X.env.scope x) (hf : X.fn x = true ∨ X.env.scope.names.lookup x = some .local) (hC : C ≠ some i) (he : PE X e (rE C X.K m)) (ho : o = .add ∨ o = .sub) :
    PS X (.AugAssign (.Name x px) (opOf o) e pos) (rSt X.K C ta G₀ H₀ (mAug m i o)) := by
  have key : ∀ (g : Int → Int → Int), PIp X (opOf o) (ipI g) → (∀ a b : Int, (match o, some a, some b with
      | .add, some a, some b => some (a + b)
      | .sub, some a, some b => some (a - b)
      | _, _, _ => none) = some (g a b)) → PS X (.AugAssign (.Name x px) (opOf o) e pos) (rSt X.K C ta G₀ H₀ (mAug m i o)) := by
    intro g hg hgg
    refine (ps_aug hNd hN hv he hg hf).imp ?_
    rintro D σ H ⟨ρ, t, G, oo, ρ', t', f, h, k1, k2⟩
    obtain ⟨xv, t1, h1, h2⟩ := bnd_some h
    obtain ⟨h1', rfl⟩ := lift_some' h1
    obtain ⟨y, t2, h3, h4⟩ := bnd_some h2
    obtain ⟨h5, rfl⟩ := lift_some' h4
    have hxy : ∃ a b : Int, xv = .val (.int a) ∧ y = .val (.int b) ∧ (none, ρ.set i (some (.val (.int (g a b))))) = (oo, ρ') := by
      cases hx : intOf xv with
      | none => rw [hx] at h5; rcases ho with rfl | rfl <;> cases h5
      | some a =>
        cases hy : intOf y with
        | none => rw [hx, hy] at h5; rcases ho with rfl | rfl <;> cases h5
        | some b =>
          rw [hx, hy] at h5
          refine ⟨a, b, intOf_some hx, intOf_some hy, ?_⟩
          rcases ho with rfl | rfl
          · have h2 : a + b = g a b := Option.some.inj (hgg a b)
            rw [← h2]
            exact Option.some.inj h5
          · have h2 : a - b = g a b := Option.some.inj (hgg a b)
            rw [← h2]
            exact Option.some.inj h5
    obtain ⟨a, b, rfl, rfl, hr⟩ := hxy
    cases hr
    have hs : ρ[i]? = some (some (R.val (.int a))) := by
      unfold slot at h1'
      split at h1'
      · rename_i d hd
        cases h1'
        exact hd
      · cases h1'
      · cases h1'
    obtain ⟨v, hv1, hv2⟩ := f.env.val i _ hs
    cases hv2
    refine ⟨.int a, hv1, ρ, _, G, _, _, f.env, h3, fun v G1 H1 x1 e1 q => ?_⟩
    cases q
    exact ⟨a, b, rfl, rfl, k1 rfl G1 _ H1 ((f.step x1 e1).setv hC (.int _)) x1.g⟩
  rcases ho with rfl | rfl
  · exact key _ ip_add fun a b => rfl
  · exact key _ ip_sub fun a b => rfl
abbrev mPopv (j i : Nat) : Env → M Out := fun ρ => bnd (lift (ownAt ρ i)) fun xs => lift (xs.getLast?.map fun d => (none, (ρ.set i (some (.own xs.dropLast))).set j (some (.val d))))
theorem s_popv {y : Str} {py : Pos} (hNd : X.N.Nodup) (hN : X.N[i]? = some x) (hv : Vis X.env.scope x) (hd : (x == ("__debug__" : Str)) = false) (hcd : (x == ("__classdict__" : Str)) = false) (hl : (apos.endLine == cpos.line) = true)
    (hNj : X.N[j]? = some y) (hy : L2.Loc X.env.scope y) (hf : X.fn y = true ∨ X.env.scope.names.lookup y = some .local) (hC : C ≠ some j) :
    PS X (.Assign [.Name y py] (.Call (.Attribute (.Name x px) "pop" apos) [] [] cpos) pos) (rSt X.K C ta G₀ H₀ (mPopv j i)) := by
  refine (ps_set hNd hNj hy (pe_bm0 PySem.F.plainAttrs_list PySem.F.slot_list_pop PySem.F.type_list_pop mt_pop (pe_var hN hv hd hcd) rfl hl) rfl hf).imp ?_
  rintro D σ H ⟨ρ, t, G, o, ρ', t', f, h, k1, k2⟩
  obtain ⟨xs, t1, h1, h2⟩ := bnd_some h
  obtain ⟨h1', rfl⟩ := lift_some' h1
  obtain ⟨h5, rfl⟩ := lift_some' h2
  have ho := ownAt_some h1'
  cases hq : xs.getLast? with
  | none => rw [hq] at h5; cases h5
  | some d =>
    rw [hq] at h5
    cases h5
    obtain ⟨a, ha, ow⟩ := f.env.own i xs ho
    obtain ⟨g, ⟨vs, hvs, rv⟩, z⟩ := ow
    rw [List.getLast?_eq_getElem?] at hq
    obtain ⟨v, e1, e2⟩ := rv.get hq
    refine ⟨.ref a, ha, .inl ⟨rfl, vs, .inl (.of hvs)⟩, a, vs, v, rfl, rfl, hvs, by rw [rv.length]; exact e1, ?_⟩
    have f2 := f.updO ho ha rv.dropLast (by rw [List.length_dropLast]; omega)
    exact k1 rfl G _ _ (f2.setv hC e2) Le.rfl
abbrev mPopat (m : Env → M R) (i : Nat) : Env → M Out := fun ρ => bnd (lift (ownAt ρ i)) fun xs => bnd (m ρ) fun k => lift ((intOf k).bind fun j => if 0 ≤ j ∧ j < xs.length then some (none, ρ.set i (some (.own (xs.eraseIdx j.toNat)))) else none)
theorem s_popat (hN : X.N[i]? = some x) (hv : Vis X.env.scope x) (hd : (x == ("__debug__" : Str)) = false) (hcd : (x == ("__classdict__" : Str)) = false) (he : PE X e (rE C X.K m)) (hn : ∀ x p, e ≠ .Starred x p) (hl : (apos.endLine == cpos.line) = true) :
    PS X (.Expr (.Call (.Attribute (.Name x px) "pop" apos) [e] [] cpos) pos) (rSt X.K C ta G₀ H₀ (mPopat m i)) := by
  refine (ps_expr (pe_bm PySem.F.plainAttrs_list PySem.F.slot_list_pop PySem.F.type_list_pop mt_popAt (pe_var hN hv hd hcd) (pa_cons he pa_nil (notStar_each hn)) rfl (by rw [notStar_each hn]; rfl) hl (notStar_each hn) rfl) rfl).imp ?_
  rintro D σ H ⟨ρ, t, G, o, ρ', t', f, h, k1, k2⟩
  obtain ⟨xs, t1, h1, h2⟩ := bnd_some h
  obtain ⟨h1', rfl⟩ := lift_some' h1
  obtain ⟨r, t2, h3, h4⟩ := bnd_some h2
  obtain ⟨h5, rfl⟩ := lift_some' h4
  have ho := ownAt_some h1'
  cases hk : intOf r with
  | none => rw [hk] at h5; cases h5
  | some k =>
    rw [hk] at h5
    simp only [Option.bind_some] at h5
    split at h5
    · rename_i hz
      cases h5
      have := intOf_some hk
      subst this
      obtain ⟨a, ha, ow⟩ := f.env.own i xs ho
      refine ⟨.ref a, ha, .inl ⟨rfl, ?_⟩, ρ, _, G, _, _, f.env, h3, fun v G1 H1 x1 e1 q => ?_⟩
      · obtain ⟨g, ⟨vs, hv, _⟩, _⟩ := ow
        exact ⟨vs, .inl (.of hv)⟩
      · cases q
        have f1 := f.step x1 e1
        obtain ⟨g, ⟨vs, hv, rv⟩, z⟩ := own_now f1.env ho ha
        have hlt : k.toNat < vs.length := by rw [rv.length]; omega
        have zz : xs.length ≤ 16777216 := z
        refine ⟨a, vs, k, k.toNat, vs[k.toNat], rfl, rfl, hv, by omega, by omega, ?_, List.getElem?_eq_getElem hlt, ?_⟩
        · unfold seqIndex?
          rw [rv.length]
          simp only [if_neg (show ¬ k < 0 by omega)]
          rw [if_pos (by simp; omega)]
        · exact k1 rfl G1 σ _ (f1.updO ho ha (rv.eraseIdx k.toNat) (by rw [List.length_eraseIdx]; split <;> omega)) x1.g
    · cases h5
abbrev mIns (m m2 : Env → M R) (i : Nat) : Env → M Out := fun ρ => bnd (lift (ownAt ρ i)) fun xs => bnd (m ρ) fun k => bnd (m2 ρ) fun r => lift ((intOf k).bind fun j => r.fix.bind fun d => (insIx xs j d).map fun ys => (none, ρ.set i (some (.own ys))))
theorem s_ins (hN : X.N[i]? = some x) (hv : Vis X.env.scope x) (hd : (x == ("__debug__" : Str)) = false) (hcd : (x == ("__classdict__" : Str)) = false) (he : PE X e (rE C X.K m)) (hn : ∀ x p, e ≠ .Starred x p) (he2 : PE X e2 (rE C X.K m2)) (hn2 : ∀ x p, e2 ≠ .Starred x p) (hl : (apos.endLine == cpos.line) = true) :
    PS X (.Expr (.Call (.Attribute (.Name x px) "insert" apos) [e, e2] [] cpos) pos) (rSt X.K C ta G₀ H₀ (mIns m m2 i)) := by
  refine (ps_expr (pe_bm PySem.F.plainAttrs_list PySem.F.slot_list_insert PySem.F.type_list_insert mt_insert (pe_var hN hv hd hcd) (pa_cons he (pa_cons he2 pa_nil (notStar_each hn2)) (notStar_each hn)) rfl (by rw [notStar_each hn, notStar_each hn2]; rfl) hl (notStar_each hn) (by rw [notStar_each hn2]; rfl)) rfl).imp ?_
  rintro D σ H ⟨ρ, t, G, o, ρ', t', f, h, k1, k2⟩
  obtain ⟨xs, t1, h1, h2⟩ := bnd_some h
  obtain ⟨h1', rfl⟩ := lift_some' h1
  obtain ⟨kk, t2, h3, h4⟩ := bnd_some h2
  obtain ⟨r, t3, h6, h7⟩ := bnd_some h4
  obtain ⟨h5, rfl⟩ := lift_some' h7
  have ho := ownAt_some h1'
  cases hk : intOf kk with
  | none => rw [hk] at h5; cases h5
  | some k =>
    rw [hk] at h5
    simp only [Option.bind_some] at h5
    have := intOf_some hk
    subst this
    cases hf : r.fix with
    | none => rw [hf] at h5; cases h5
    | some d =>
      rw [hf] at h5
      simp only [Option.bind_some, insIx] at h5
      split at h5
      · rename_i hz
        cases h5
        obtain ⟨a, ha, ow⟩ := f.env.own i xs ho
        refine ⟨.ref a, ha, .inl ⟨rfl, ?_⟩, ρ, _, G, _, _, f.env, h3, fun v G1 H1 x1 e1 q => ?_⟩
        · obtain ⟨g, ⟨vs, hv, _⟩, _⟩ := ow
          exact ⟨vs, .inl (.of hv)⟩
        · cases q
          have f1 := f.step x1 e1
          refine ⟨ρ, _, G1, r, _, f1.env, h6, fun v2 G2 H2 x2 e2' q2 => ?_⟩
          obtain ⟨G3, f3, rp, l3, _⟩ := fix_of f1 x2 e2' q2 hf
          obtain ⟨g, ⟨vs, hv, rv⟩, z⟩ := own_now f3.env ho ha
          have z2 : k.natAbs ≤ 16777216 := hz.2.1
          refine ⟨a, vs, k, v2, rfl, rfl, hv, by rw [rv.length]; exact big_line hz.2.2, hz.1, by omega, ?_⟩
          have hlen : (xs.take k.toNat ++ d :: xs.drop k.toNat).length ≤ big := by
            have z3 := hz.2.2
            simp only [List.length_append, List.length_cons, List.length_take, List.length_drop]
            omega
          have hcat : RpAll X.K G3 (vs.take k.toNat ++ [v2] ++ vs.drop k.toNat) (xs.take k.toNat ++ d :: xs.drop k.toNat) := by
            rw [List.append_assoc]
            exact (rv.take _).append (.cons rp (rv.drop _))
          exact k1 rfl G3 σ _ (f3.updO ho ha hcat hlen) (x1.g.trans l3)
      · cases h5
end
end Ev

set_option Elab.async false
set_option linter.all false
set_option maxRecDepth 100000
set_option maxHeartbeats 2000000
/-! EvM: the look at a statement, and that it does what the evaluator says. -/
namespace Ev
open PySem PySem.Spec PyProof.Rows L2
def swNames (sc : Scope) (ts : List Expr) : List Str :=
  let line := (ts.head?.map (·.pos.line)).getD 0
  ts.filterMap fun
    | .Name id pos => if sc.names.lookup id == some .local && pos.line == line then some id else none
    | _ => none
def swN (sc : Scope) (ts vs : List Expr) : Option (Option (List Str)) :=
  if (!(ts.length == 2 || ts.length == 3) || vs.length != ts.length) = true then some none else
  if (vs.any fun | .Starred .. => true | _ => false) = true then some none else
  if ((swNames sc ts).length != ts.length || (swNames sc ts).eraseDups.length != (swNames sc ts).length) = true then some none else
  if (vs.all (foldedForSure 8)) = true then some none else
  if (vs.all (constantsAlone 8)) = true then none else some (some (swNames sc ts))
theorem swp_of {env : PySem.Env} {ts vs : List Expr} {k k2 : Nat} {p p2 : Pos} {r : Option (List Str)} (hk : env.scope.kind = .function) (h : swN env.scope ts vs = some r) : swappedStores [.Tuple ts k p] (.Tuple vs k2 p2) env = pure r := by
  have hbk : env.blockKind = .function := by unfold Env.blockKind; rw [hk]; rfl
  unfold swappedStores
  unfold swN at h
  simp only [hbk]
  split at h
  · rename_i c
    cases h
    exact if_pos (by rw [c]; rfl)
  · rename_i c1
    refine (if_neg (by simpa using c1)).trans ?_
    split at h
    · rename_i c
      cases h
      exact if_pos c
    · rename_i c2
      refine (if_neg c2).trans ?_
      split at h
      · rename_i c
        cases h
        exact if_pos c
      · rename_i c3
        refine (if_neg c3).trans ?_
        split at h
        · rename_i c
          cases h
          exact if_pos c
        · rename_i c4
          refine (if_neg c4).trans ?_
          split at h
          · cases h
          · rename_i c5
            cases h
            exact if_neg c5
theorem swaps_of {env : PySem.Env} {elt : Expr} {gs : List Comprehension} {scope : Scope} {pos py : Pos} {y : Str} {l : Nat} (hk : env.scope.kind = .function) :
   swapsWith (.ListComp elt gs scope pos) (some (.Name y py)) l env = pure (env.scope.names.lookup y == some .local && py.line == pos.line && !(scope.names.any fun (n, k) => n == y && (k == .local || k == .cell))) := by
  have hbk : env.blockKind = .function := by unfold Env.blockKind; rw [hk]; rfl
  unfold swapsWith
  simp only [hbk]
  rfl

section
variable {X : Cx} {C : Option Nat} {ta : Addr → Prop} {G₀ H₀ : Hp} {pos : Pos} {s : Stmt}
abbrev mPar (is : List (Nat × Bool)) (me : Env → M (List R)) : Env → M Out := fun ρ => bnd (me ρ) fun rs => lift ((putRs is rs ρ).map fun ρ' => (none, ρ'))
theorem put_all : ∀ {is : List Nat} {rs : List R} {ρ ρ' : Env}, putRs (is.map fun i => (i, false)) rs ρ = some ρ' → ∃ ds, fixes rs = some ds ∧ setAll is ds ρ = some ρ'
  | [], [], ρ, ρ', h => ⟨[], rfl, h⟩
  | [], _ :: _, ρ, ρ', h => by cases h
  | _ :: _, [], ρ, ρ', h => by cases h
  | i :: is, r :: rs, ρ, ρ', h => by
    simp only [List.map_cons, putRs] at h
    cases hf : r.fix with
    | none =>
      have : putR (i, false) r ρ = none := by cases r <;> first | (cases hf; done) | rfl
      rw [this] at h
      cases h
    | some d =>
      have : putR (i, false) r ρ = some (ρ.set i (some (.val d))) := by cases r <;> first | (cases hf; done) | (cases hf; rfl)
      rw [this] at h
      simp only [Option.bind_some] at h
      obtain ⟨ds, h1, h2⟩ := put_all h
      exact ⟨d :: ds, by simp only [fixes, hf, h1], h2⟩
/-- all values stay -/
theorem fixs_of {K : PySem.W.Frag} {ρ : Env} {t t' : Tape} {G H G1 H1 : Hp} {σ : L2.St} {vs : List V} {rs : List R} {ds : List PyData} (f : Fn K C ta G₀ H₀ ρ t G σ H) (x : Ext (tad C σ) G H G1 H1) (e : EnvOk K C ρ t' G1 σ H1) (q : REs K H G1 H1 ρ σ vs rs) (hd : fixes rs = some ds) :
    ∃ G2, Fn K C ta G₀ H₀ ρ t' G2 σ H1 ∧ RpAll K G2 vs ds ∧ Le G G2 := by
  obtain ⟨nb, rfl⟩ := fixes_spec hd
  obtain ⟨G2, x2, l2, rp⟩ := frz_from G1 x Le.rfl q nb
  exact ⟨G2, f.step x2 (f.env.rebase e x2 l2), rp, x2.g⟩
theorem s_par2F {me : Env → M (List R)} {i j : Nat} (h : PS X s (tPar i j (rA C X.K me))) (hi : C ≠ some i) (hj : C ≠ some j) : PS X s (rSt X.K C ta G₀ H₀ (mPar [(i, false), (j, false)] me)) := h.imp fun D σ H ⟨ρ, t, G, o, ρ', t', f, h, k1, k2⟩ => by
  obtain ⟨rs, t1, h1, h2⟩ := bnd_some h
  obtain ⟨h3, rfl⟩ := lift_some' h2
  cases hp : putRs [(i, false), (j, false)] rs ρ with
  | none => rw [hp] at h3; cases h3
  | some ρ2 =>
    rw [hp] at h3
    cases h3
    obtain ⟨ds, hf, hs⟩ := put_all (is := [i, j]) hp
    refine ⟨ρ, t, G, rs, _, f.env, h1, fun vs G1 H1 x1 e1 q => ?_⟩
    obtain ⟨G2, f2, rp, l2⟩ := fixs_of f x1 e1 q hf
    match ds, rp, hs with
    | [d1, d2], .cons r1 (.cons r2 .nil), hs =>
      cases hs
      exact ⟨_, _, rfl, k1 rfl G2 _ H1 ((f2.setv hi r1).setv hj r2) l2⟩
theorem s_par3F {me : Env → M (List R)} {i j l : Nat} (h : PS X s (tPar3 i j l (rA C X.K me))) (hi : C ≠ some i) (hj : C ≠ some j) (hl : C ≠ some l) : PS X s (rSt X.K C ta G₀ H₀ (mPar [(i, false), (j, false), (l, false)] me)) := h.imp fun D σ H ⟨ρ, t, G, o, ρ', t', f, h, k1, k2⟩ => by
  obtain ⟨rs, t1, h1, h2⟩ := bnd_some h
  obtain ⟨h3, rfl⟩ := lift_some' h2
  cases hp : putRs [(i, false), (j, false), (l, false)] rs ρ with
  | none => rw [hp] at h3; cases h3
  | some ρ2 =>
    rw [hp] at h3
    cases h3
    obtain ⟨ds, hf, hs⟩ := put_all (is := [i, j, l]) hp
    refine ⟨ρ, t, G, rs, _, f.env, h1, fun vs G1 H1 x1 e1 q => ?_⟩
    obtain ⟨G2, f2, rp, l2⟩ := fixs_of f x1 e1 q hf
    match ds, rp, hs with
    | [d1, d2, d3], .cons r1 (.cons r2 (.cons r3 .nil)), hs =>
      cases hs
      exact ⟨_, _, _, rfl, k1 rfl G2 _ H1 (((f2.setv hi r1).setv hj r2).setv hl r3) l2⟩
/-- constants: by the tuple -/
theorem s_parC {me : Env → M (List R)} {is : List Nat} (h : PS X s (tAsg (rE C X.K fun ρ => bnd (me ρ) fun rs => lift ((fixes rs).bind fun ds => if ds.length ≤ big then some (.val (.tuple ds)) else none)) (rG C X.K (.tup is)))) (hC : ∀ i, C = some i → i ∉ is) (hl : is.length ≤ 9) : PS X s (rSt X.K C ta G₀ H₀ (mPar (is.map fun i => (i, false)) me)) := (s_unp (ta := ta) (G₀ := G₀) (H₀ := H₀) h hC).imp fun D σ H ⟨ρ, t, G, o, ρ', t', f, h, k1, k2⟩ => by
  obtain ⟨rs, t1, h1, h2⟩ := bnd_some h
  obtain ⟨h3, rfl⟩ := lift_some' h2
  cases hp : putRs (is.map fun i => (i, false)) rs ρ with
  | none => rw [hp] at h3; cases h3
  | some ρ2 =>
    rw [hp] at h3
    cases h3
    obtain ⟨ds, hf, hs⟩ := put_all hp
    have hlen : ∀ {is : List Nat} {ds : List PyData} {ρ ρ' : Env}, setAll is ds ρ = some ρ' → ds.length = is.length := by
      intro is
      induction is with
      | nil => intro ds ρ ρ' q; cases ds <;> simp_all [setAll]
      | cons i is ih =>
        intro ds ρ ρ' q
        cases ds with
        | nil => simp [setAll] at q
        | cons d ds => simp only [List.length_cons]; rw [ih q]
    refine ⟨ρ, t, G, none, _, _, f, ?_, k1, k2⟩
    show bnd (bnd (me ρ) _) _ t = _
    unfold bnd
    rw [h1]
    simp only [hf, Option.bind_some]
    rw [if_pos (show ds.length ≤ big by rw [hlen hs]; simp only [big]; omega), lift_some]
    simp only [ret_ap, R.fix, Option.bind_some, bindT, items, hs, Option.map_some, lift_some]
abbrev mPar2 (is : List (Nat × Bool)) (ma mb : Env → M R) : Env → M Out := mPar is fun ρ => bnd (ma ρ) fun x => bnd (bnd (mb ρ) fun y => bnd (ret []) fun ys => ret (y :: ys)) fun xs => ret (x :: xs)
theorem s_par2 {ma mb : Env → M R} {i j : Nat} {b1 b2 : Bool} (h : PS X s (tPar i j (tCons (rE C X.K ma) (tCons (rE C X.K mb) tNil)))) (hi : C ≠ some i) (hj : C ≠ some j) (hij : i ≠ j) : PS X s (rSt X.K C ta G₀ H₀ (mPar2 [(i, b1), (j, b2)] ma mb)) := h.imp fun D σ H ⟨ρ, t, G, o, ρ', t', f, h, k1, k2⟩ => by
  obtain ⟨rs, t1, h1, h2⟩ := bnd_some h
  obtain ⟨h3, rfl⟩ := lift_some' h2
  obtain ⟨r1, t2, g1, g2⟩ := bnd_some h1
  obtain ⟨xs, t3, g3, g4⟩ := bnd_some g2
  obtain ⟨rfl, rfl⟩ := ret_some g4
  obtain ⟨r2, t4, g5, g6⟩ := bnd_some g3
  obtain ⟨ys, t5, g7, g8⟩ := bnd_some g6
  obtain ⟨rfl, rfl⟩ := ret_some g7
  obtain ⟨rfl, rfl⟩ := ret_some g8
  refine ⟨ρ, t, G, r1, t2, f.env, g1, fun v1 G1 H1 x1 e1 q1 => ⟨ρ, t2, G1, r2, _, e1, g5, fun v2 G2 H2 x2 e2 q2 => ⟨v1, v2, rfl, ?_⟩⟩⟩
  cases hp : putRs [(i, b1), (j, b2)] [r1, r2] ρ with
  | none => rw [hp] at h3; cases h3
  | some ρ2 =>
    rw [hp] at h3
    cases h3
    simp only [putRs] at hp
    cases hp1 : putR (i, b1) r1 ρ with
    | none => rw [hp1] at hp; cases hp
    | some ρ1 =>
      rw [hp1] at hp
      simp only [Option.bind_some] at hp
      cases hp2 : putR (j, b2) r2 ρ1 with
      | none => rw [hp2] at hp; cases hp
      | some ρ2' =>
        rw [hp2] at hp
        simp only [Option.bind_some] at hp
        cases hp
        have f2 := (f.step x1 e1).step x2 e2
        have q1' := RE.next f.env q1 x2
        -- the first
        have first : ∃ G3, Fn X.K C ta G₀ H₀ ρ1 t' G3 (σ.set i (some v1)) H2 ∧ Le G2 G3 ∧ (∀ a, H1 a = none → G2 a = none → G3 a = none) ∧ (∀ a, H1 a = none → H2 a ≠ none → Apart C a ρ σ → Apart C a ρ1 (σ.set i (some v1))) := by
          cases b1 with
          | true =>
            cases r1 with
            | val d => cases hp1
            | bor d => cases hp1
            | own zs =>
              cases hp1
              obtain ⟨a, rfl, fr, ow⟩ := q1'
              obtain ⟨a', ea, _, ow1⟩ := q1
              cases ea
              refine ⟨G2, f2.setO hi ow (f.env.aparts fr) (f.ext.fresh fr), Le.rfl, fun _ _ h => h, fun b hb _ ap => ⟨fun k us w1 w2 => ?_, fun z => ap.tap ((tad_set hi).1 z)⟩⟩
              rcases get_set w1 with ⟨rfl, _⟩ | ⟨n1, w3⟩
              · rcases get_set w2 with ⟨_, w4⟩ | ⟨n2, _⟩
                · cases w4
                  exact ow1.there hb
                · exact n2 rfl
              · rw [List.getElem?_set_ne n1] at w2
                exact ap.own k us w3 w2
          | false =>
            have hf : ∃ d, r1.fix = some d ∧ ρ1 = ρ.set i (some (.val d)) := by
              cases r1 with
              | val d => cases hp1; exact ⟨_, rfl, rfl⟩
              | own d => cases hp1; exact ⟨_, rfl, rfl⟩
              | bor d => cases hp1
            obtain ⟨d, hf, rfl⟩ := hf
            have back : ∃ G3, Fn X.K C ta G₀ H₀ ρ t' G3 σ H2 ∧ Rp X.K G3 v1 d ∧ Le G2 G3 ∧ (∀ a, H1 a = none → G2 a = none → G3 a = none) := by
              cases r1 with
              | val e => cases hf; exact ⟨G2, f2, q1', Le.rfl, fun _ _ h => h⟩
              | own e =>
                cases hf
                obtain ⟨a, rfl, fr, ⟨g, ⟨vs, hv, rv⟩, z⟩⟩ := q1'
                obtain ⟨a', ea, _, ow1⟩ := q1
                cases ea
                have l := Le.upd (o := .lst vs) g
                have x3 : Ext (tad C σ) G H (upd G2 a (.lst vs)) H2 := (x1.trans x2).frz fr g hv
                exact ⟨upd G2 a (.lst vs), f.step x3 (f.env.rebase e2 x3 l), .lst (.inl (.inl upd_same)) (RpAll.mono l _ _ rv) z, l, fun b hb h => by
                  rw [upd_ne fun z => ow1.there (by rw [← z]; exact hb)]
                  exact h⟩
              | bor e => cases hf
            obtain ⟨G3, f3, rp, l3, w⟩ := back
            exact ⟨G3, f3.setv hi rp, l3, w, fun b _ _ ap => ap.setv hi⟩
        obtain ⟨G3, f3, l3, w3, w4⟩ := first
        have l03 : Le G G3 := (x1.g.trans x2.g).trans l3
        cases b2 with
        | true =>
          cases r2 with
          | val d => cases hp2
          | bor d => cases hp2
          | own zs =>
            cases hp2
            obtain ⟨a, rfl, fr, ⟨g, ⟨vs, hv, rv⟩, z⟩⟩ := q2
            refine k1 rfl G3 _ H2 (f3.setO hj ⟨w3 a fr g, ⟨vs, hv, RpAll.mono l3 _ _ rv⟩, z⟩ (w4 a fr (by rw [hv]; simp) (e1.aparts fr)) ((f.step x1 e1).ext.fresh fr)) l03
        | false =>
          have hf : ∃ d, r2.fix = some d ∧ ρ' = ρ1.set j (some (.val d)) := by
            cases r2 with
            | val d => cases hp2; exact ⟨_, rfl, rfl⟩
            | own d => cases hp2; exact ⟨_, rfl, rfl⟩
            | bor d => cases hp2
          obtain ⟨d, hf, rfl⟩ := hf
          cases r2 with
          | val e =>
            cases hf
            exact k1 rfl G3 _ H2 (f3.setv hj (Rp.mono l3 _ _ q2)) l03
          | own e =>
            cases hf
            obtain ⟨a, rfl, fr, ⟨g, ⟨vs, hv, rv⟩, z⟩⟩ := q2
            -- held first, then for ever
            have f4 := f3.setO hj ⟨w3 a fr g, ⟨vs, hv, RpAll.mono l3 _ _ rv⟩, z⟩ (w4 a fr (by rw [hv]; simp) (e1.aparts fr)) ((f.step x1 e1).ext.fresh fr)
            by_cases hl : j < ρ1.length
            · obtain ⟨G5, l5, f5⟩ := f4.frz (i := j) (xs := e) (List.getElem?_set_self hl)
              rw [List.set_set] at f5
              exact k1 rfl G5 _ H2 f5 (l03.trans l5)
            · have e1 : ∀ o : Option R, ρ1.set j o = ρ1 := fun o => List.set_eq_of_length_le (by omega)
              rw [e1] at f4 k1
              exact k1 rfl G3 _ H2 f4 l03
          | bor e => cases hf
end
end Ev

set_option Elab.async false
set_option linter.all false
set_option maxRecDepth 100000
set_option maxHeartbeats 4000000
/-! EvM2: the look at statements. -/
namespace Ev
open PySem PySem.Spec PyProof.Rows L2
def notComp : Expr → Bool
  | .ListComp .. => false
  | .SetComp .. => false
  | .DictComp .. => false
  | _ => true
def isLC : Expr → Bool
  | .ListComp .. => true
  | _ => false
def setOk (sc : Scope) (e : Expr) : Bool := notComp e || (isLC e && decide (sc.kind = .function))
def notTupE : Expr → Bool
  | .Tuple .. => false
  | _ => true
def allF : List (Nat × Bool) → Bool
  | [] => true
  | (_, b) :: r => !b && allF r
def tapeNm (Z : Sta) (sc : Scope) (x : Str) : Bool := match Z.C with
  | some i => nmOk Z sc i x
  | none => false
def lineOk (a c : Pos) : Bool := a.endLine == c.line
mutual
def chkS (Z : Sta) (tp : Bool) : S → (Str → Bool) → Scope → Stmt → Bool
  | .set i e, q, sc, s => match s with
    | .Assign [.Name x _] v _ => nmL Z q sc i x && chk Z e q sc v && setOk sc v
    | _ => false
  | .setO i e, q, sc, s => match s with
    | .Assign [.Name x _] v _ => nmL Z q sc i x && chk Z e q sc v && setOk sc v
    | _ => false
  | .par is es, q, sc, s => match s with
    | .Assign [.Tuple ts _ _] (.Tuple vs _ _) _ => decide (sc.kind = .function) && (match swN sc ts vs with
      | none => false
      | some none => allF is && nmsL Z q sc (is.map (·.1)) ts && chks Z es q sc vs && decide (is.length ≤ 9)
      | some (some names) => (match is, ts, vs with
        | [(i, b1), (j, b2)], [.Name x _, .Name y _], [v, w] => decide (names = [x, y]) && decide (sc.names.lookup x = some .local) && decide (sc.names.lookup y = some .local) && nmL Z q sc i x && nmL Z q sc j y && !decide (i = j) && (match b1 || b2 with
          | false => chks Z es q sc [v, w]
          | true => (match es with
            | .cons ta (.cons tb .nil) => chk Z ta q sc v && noStar v && chk Z tb q sc w && noStar w
            | _ => false))
        | [(i, b1), (j, b2), (l, b3)], [.Name x _, .Name y _, .Name z _], [u, v, w] => !b1 && !b2 && !b3 && decide (names = [x, y, z]) && decide (sc.names.lookup x = some .local) && decide (sc.names.lookup y = some .local) && decide (sc.names.lookup z = some .local) && nmL Z q sc i x && nmL Z q sc j y && nmL Z q sc l z && !decide (i = j) && !decide (i = l) && !decide (j = l) && chks Z es q sc [u, v, w]
        | _, _, _ => false))
    | _ => false
  | .unp is e, q, sc, s => match s with
    | .Assign [.Tuple ts _ _] v _ => nmsL Z q sc is ts && chk Z e q sc v && notTupE v
    | _ => false
  | .aug i o e, q, sc, s => match s with
    | .AugAssign (.Name x _) p v _ => nmL Z q sc i x && decide (p = opOf o) && chk Z e q sc v && (match o with
      | .add => true
      | .sub => true
      | _ => false)
    | _ => false
  | .app i e, q, sc, s => match s with
    | .Expr (.Call (.Attribute (.Name x _) nm a) [v] [] c) _ => decide (nm = "append") && nmOk Z sc i x && chk Z e q sc v && noStar v && lineOk a c
    | _ => false
  | .seti i ix e, q, sc, s => match s with
    | .Assign [.Subscript (.Name x _) y _] v _ => nmOk Z sc i x && chk Z e q sc v && chk Z ix q sc y && plainI y
    | _ => false
  | .popv j i, q, sc, s => match s with
    | .Assign [.Name y _] (.Call (.Attribute (.Name x _) nm a) [] [] c) _ => decide (nm = "pop") && nmOk Z sc i x && nmL Z q sc j y && lineOk a c
    | _ => false
  | .popat i ix, q, sc, s => match s with
    | .Expr (.Call (.Attribute (.Name x _) nm a) [v] [] c) _ => decide (nm = "pop") && nmOk Z sc i x && chk Z ix q sc v && noStar v && lineOk a c
    | _ => false
  | .ins i ix e, q, sc, s => match s with
    | .Expr (.Call (.Attribute (.Name x _) nm a) [v, w] [] c) _ => decide (nm = "insert") && nmOk Z sc i x && chk Z ix q sc v && noStar v && chk Z e q sc w && noStar w && lineOk a c
    | _ => false
  | .tini i e, q, sc, s => match s with
    | .Assign [.Name x _] v _ => tp && decide (Z.C = some i) && decide (Z.N[i]? = some x) && (decide (sc.names.lookup x = some .local) || (q x && decide (sc.names.lookup x = some .cell))) && chk Z e q sc v && notComp v
    | _ => false
  | .tset ix e, q, sc, s => match s with
    | .Assign [.Subscript (.Name x _) y _] v _ => tapeNm Z sc x && chk Z e q sc v && chk Z ix q sc y && plainI y
    | _ => false
  | .ite c a b, q, sc, s => match s with
    | .If x y z _ => chk Z c q sc x && chkSs Z tp a q sc y && chkSs Z tp b q sc z
    | _ => false
  | .for_ tg it body, q, sc, s => match s with
    | .For tgE iter bd [] _ => chkI Z it q sc tgE iter && noSet iter && tgOk Z q sc tg tgE && chkSs Z tp body q sc bd && (slotsT tg).all fun i => !decide (Z.C = some i)
    | _ => false
  | .while_ c body, q, sc, s => match s with
    | .While x bd [] _ => chk Z c q sc x && chkSs Z tp body q sc bd
    | _ => false
  | .ret e, q, sc, s => match s with
    | .Return (some x) _ => chk Z e q sc x
    | .Return none _ => (match e with
      | .cst .none => true
      | _ => false)
    | _ => false
  | .pass, q, sc, s => match s with
    | .Pass _ => true
    | _ => false
  | .frz _, _, _, _ => false
def chkSs (Z : Sta) (tp : Bool) : Ss → (Str → Bool) → Scope → List Stmt → Bool
  | .nil, q, sc, sts => match sts with
    | [] => true
    | _ => false
  | .cons s ss, q, sc, sts => match s with
    | .frz _ => chkSs Z tp ss q sc sts
    | s => match sts with
      | st :: r => chkS Z tp s q sc st && chkSs Z tp ss q sc r
      | [] => false
end
section
variable {X : Cx} {Z : Sta} {q : Str → Bool} {sc : Scope} {Φ : Call} {Γ : Str → Option PyData}
theorem notComp_ {e : Expr} (h : notComp e = true) (tg : Option Expr) (l : Nat) (env : PySem.Env) : swapsWith e tg l env = pure false := by
  cases e <;> first | (cases h; done) | rfl
theorem set_comp (g : Good X Z q sc Φ Γ) {tg : Tgt} {it : I} {c : T} {ge : Ge} {elt : Expr} {gs : List Comprehension} {scope : Scope} {pos py spos : Pos} {i : Nat} {x : Str} (h : chk Z (.comp tg it c ge) q sc (.ListComp elt gs scope pos) = true) (hN : X.N[i]? = some x) (hl : X.env.scope.names.lookup x = some .local)
    (hsw : swapsWith (.ListComp elt gs scope pos) (some (.Name x py)) spos.line X.env = pure true) : PS X (.Assign [.Name x py] (.ListComp elt gs scope pos) spos) (tAsg (rE Z.C X.K (ev Φ Γ (.comp tg it c ge))) (gName i)) := by
  unfold chk at h
  split at h
  · rename_i hgs
    cases hgs
    simp only [Bool.and_eq_true, decide_eq_true_eq] at h
    obtain ⟨⟨⟨⟨⟨⟨rfl, h1⟩, h2⟩, h3⟩, h4⟩, h5⟩, h6⟩ := h
    cases ge with
    | for_ _ _ _ _ => cases h6
    | elt e1 =>
      obtain ⟨b1, b2⟩ := head_ g.N g.sc h1
      have om := own_map Z.N (slotsT tg ++ ownG (.elt e1))
      have key := s_comp1 (pos := pos) (py := py) (spos := spos) (C := Z.C) (mi := evi Φ Γ false it) (tg := tg) (mc := ev Φ Γ c) (me := ev Φ Γ e1) g.calm g.nd hN hl hsw (sndI it g h2 false) b1 (fun s H A cl fp => g_of (g.blk s H scope A cl fp) h4) (fun s H A cl fp => ifs_ok h5 fun x hx => snd c (g.blk s H scope A cl fp) hx) (fun s H A cl fp => (snd e1 (g.blk s H scope A cl fp) h6).pe) (noSet_ h3 _) (by rw [om]; exact b2) (by rw [om]; intro i hi; exact List.mem_append_left _ hi)
      rw [om] at key
      exact key
  · rename_i hgs
    cases hgs
    simp only [Bool.and_eq_true, decide_eq_true_eq] at h
    obtain ⟨⟨⟨⟨⟨⟨⟨rfl, rfl⟩, h1⟩, h2⟩, h3⟩, h4⟩, h5⟩, h6⟩ := h
    cases ge with
    | elt _ => cases h6
    | for_ tg1 it1 c1 g1 =>
      cases g1 with
      | for_ _ _ _ _ => cases h6
      | elt e1 =>
        simp only [Bool.and_eq_true, decide_eq_true_eq] at h6
        obtain ⟨⟨⟨⟨h6, h7⟩, h8⟩, h9⟩, h10⟩ := h6
        obtain ⟨b1, b2⟩ := head_ g.N g.sc h1
        have om := own_map Z.N (slotsT tg ++ ownG (.for_ tg1 it1 c1 (.elt e1)))
        have key := s_comp2 (pos := pos) (py := py) (spos := spos) (elt := elt) (C := Z.C) (mi := evi Φ Γ false it) (tg := tg) (mc := ev Φ Γ c) (mi1 := evi Φ Γ true it1) (tg1 := tg1) (mc1 := ev Φ Γ c1) (me := ev Φ Γ e1) (vs1 := slotsT tg1 ++ ownG (.elt e1)) g.calm g.nd hN hl hsw (sndI it g h2 false) b1 (by rw [om]; intro i hi; exact List.mem_append_right _ hi)
          (fun s H A cl fp => g_of (g.blk s H scope A cl fp) h4) (fun s H A cl fp => ifs_ok h5 fun x hx => snd c (g.blk s H scope A cl fp) hx)
          (fun s H A cl fp => sndI it1 (g.blk s H scope A cl fp) h6 true) (fun s H A cl fp => g_of (g.blk s H scope A cl fp) h8) (fun s H A cl fp => ifs_ok h9 fun x hx => snd c1 (g.blk s H scope A cl fp) hx)
          (fun s H A cl fp => (snd e1 (g.blk s H scope A cl fp) h10).pe) (noSet_ h3 _) (fun env => noSet_ h7 env) (by rw [om]; exact b2) (by rw [om]; intro i hi; exact List.mem_append_left _ hi) (fun i hi => List.mem_append_left _ hi)
        rw [om] at key
        exact key
  · cases h
/-- name = value -/
theorem set_of (g : Good X Z q sc Φ Γ) {e : T} {v : Expr} {i : Nat} {x : Str} {py spos : Pos} (hn : nmL Z q sc i x = true) (h : chk Z e q sc v = true) (hs : setOk sc v = true) : PS X (.Assign [.Name x py] v spos) (tAsg (rE Z.C X.K (ev Φ Γ e)) (gName i)) := by
  obtain ⟨k1, k2, k3, k4⟩ := g.nml hn
  unfold setOk at hs
  rw [Bool.or_eq_true] at hs
  rcases hs with hs | hs
  · exact ps_set g.nd k1 k2 (snd e g h).pe (notComp_ hs _ _ _) k3
  · rw [Bool.and_eq_true, decide_eq_true_eq] at hs
    obtain ⟨hlc, hk⟩ := hs
    cases v <;> simp only [isLC, Bool.false_eq_true] at hlc
    rename_i elt gs scope pos
    have sw := swaps_of (env := X.env) (elt := elt) (gs := gs) (scope := scope) (pos := pos) (py := py) (y := x) (l := spos.line) (by rw [g.sc]; exact hk)
    cases hb : (X.env.scope.names.lookup x == some .local && py.line == pos.line && !(scope.names.any fun (n, k) => n == x && (k == .local || k == .cell))) with
    | false =>
      rw [hb] at sw
      exact ps_set g.nd k1 k2 (snd e g h).pe sw k3
    | true =>
      rw [hb] at sw
      simp only [Bool.and_eq_true] at hb
      have hl : X.env.scope.names.lookup x = some .local := by simpa using hb.1.1
      cases e with
      | comp tg it c ge => exact set_comp g h k1 hl sw
      | cst d =>
        unfold chk cstOk at h
        cases h
      | _ => (first | (unfold chk at h; simp at h; done) | (unfold chk at h; cases h; done))
end
end Ev

set_option Elab.async false
set_option linter.all false
set_option maxRecDepth 100000
set_option maxHeartbeats 4000000
/-! EvM3: statements that pass the look do what the evaluator says. -/
namespace Ev
open PySem PySem.Spec PyProof.Rows L2
section
variable {Z : Sta} {Φ : Call} {Γ : Str → Option PyData} {X : Cx} {q : Str → Bool} {sc : Scope} {ta : Addr → Prop} {G₀ H₀ : Hp} {tp : Bool}
theorem allF_ : ∀ {is : List (Nat × Bool)}, allF is = true → is = (is.map (·.1)).map fun i => (i, false)
  | [], _ => rfl
  | (i, b) :: r, h => by
    simp only [allF, Bool.and_eq_true, Bool.not_eq_true'] at h
    obtain ⟨rfl, h⟩ := h
    rw [List.map_cons, List.map_cons, ← allF_ h]
theorem nms_out : ∀ {is : List Nat} {es : List Expr}, nmsL Z q sc is es = true → ∀ i, Z.C = some i → i ∉ is
  | [], _, _, _, _ => by simp
  | j :: is, [], h, _, _ => by simp [nmsL] at h
  | j :: is, e :: es, h, i, hi => by
    cases e <;> simp only [nmsL, Bool.false_eq_true, Bool.and_eq_true] at h
    have h1 := h.1
    unfold nmL at h1
    simp only [Bool.and_eq_true, Bool.not_eq_true', decide_eq_false_iff_not] at h1
    simp only [List.mem_cons, not_or]
    exact ⟨fun e => h1.2 (by rw [hi, e]), nms_out h.2 i hi⟩
theorem Good.tape (g : Good X Z q sc Φ Γ) {x : Str} (h : tapeNm Z sc x = true) : ∃ i, Z.C = some i ∧ X.N[i]? = some x ∧ Vis X.env.scope x ∧ (x == ("__debug__" : Str)) = false ∧ (x == ("__classdict__" : Str)) = false := by
  unfold tapeNm at h
  split at h
  · rename_i i hi
    exact ⟨i, hi, g.nm h⟩
  · cases h
theorem notTup_swp {ts : List Expr} {k : Nat} {p : Pos} {v : Expr} (h : notTupE v = true) (env : PySem.Env) : swappedStores [.Tuple ts k p] v env = pure none := by
  cases v <;> first | (cases h; done) | rfl
theorem swapTup {ts : List Expr} {k : Nat} {p : Pos} {v : Expr} {l : Nat} {env : PySem.Env} : swapsWithSole [.Tuple ts k p] v l env = pure false := by cases v <;> rfl
theorem sub_name {Y : Cx} : True := trivial
mutual
theorem sndS : ∀ (s : S) {st : Stmt}, Good X Z q sc Φ Γ → PassesOwn (model X.prog X.w) X.A X.env X.xe → (tp = true → ∀ a, ¬ ta a) → chkS Z tp s q sc st = true → PS X st (rSt X.K Z.C ta G₀ H₀ (exS Φ Γ s))
  | .set i e, st, g, hp, ht, h => by
    unfold chkS at h
    split at h
    · simp only [Bool.and_eq_true] at h
      exact s_set (set_of g h.1.1 h.1.2 h.2) (g.nml h.1.1).2.2.2
    · cases h
  | .setO i e, st, g, hp, ht, h => by
    unfold chkS at h
    split at h
    · simp only [Bool.and_eq_true] at h
      exact s_setO (set_of g h.1.1 h.1.2 h.2) (g.nml h.1.1).2.2.2
    · cases h
  | .par is es, st, g, hp, ht, h => by
    unfold chkS at h
    split at h
    · rename_i ts kt pt vs k2 pt2 pos
      simp only [Bool.and_eq_true, decide_eq_true_eq] at h
      obtain ⟨hk, h⟩ := h
      split at h
      · cases h
      · rename_i hsw
        simp only [Bool.and_eq_true, decide_eq_true_eq] at h
        obtain ⟨⟨⟨h1, h2⟩, h3⟩, h4⟩ := h
        have sw := swp_of (env := X.env) (k := kt) (k2 := k2) (p := pt) (p2 := pt2) (by rw [g.sc]; exact hk) (by rw [g.sc]; exact hsw)
        obtain ⟨n1, n2, n3⟩ := gs_of g h2
        have key := s_parC (ta := ta) (G₀ := G₀) (H₀ := H₀) (C := Z.C) (is := is.map (·.1)) (ps_asg (pos := pos) (e_tup (pos := pt2) (k0 := k2) (snds es g h3)) (g_tup (pos := pt) (k0 := kt) g.calm n1 n2 n3) swapTup sw rfl) (nms_out h2) (by rw [List.length_map]; exact h4)
        rw [← allF_ h1] at key
        exact key
      · rename_i names hsw
        have sw := swp_of (env := X.env) (k := kt) (k2 := k2) (p := pt) (p2 := pt2) (by rw [g.sc]; exact hk) (by rw [g.sc]; exact hsw)
        split at h
        · rename_i i b1 j b2 x p1 y p2 v w
          simp only [Bool.and_eq_true, decide_eq_true_eq, Bool.not_eq_true', decide_eq_false_iff_not] at h
          obtain ⟨⟨⟨⟨⟨⟨rfl, h2⟩, h3⟩, h4⟩, h5⟩, h6⟩, h7⟩ := h
          obtain ⟨a1, a2, a3, a4⟩ := g.nml h4
          obtain ⟨c1, c2, c3, c4⟩ := g.nml h5
          split at h7
          · rename_i hb
            rw [Bool.or_eq_false_iff] at hb
            obtain ⟨rfl, rfl⟩ := hb
            exact s_par2F (ps_par g.calm g.nd a1 c1 h6 (by rw [g.sc]; exact h2) (by rw [g.sc]; exact h3) (snds es g h7) sw) a4 c4
          · split at h7
            · rename_i ta' tb'
              simp only [Bool.and_eq_true] at h7
              obtain ⟨⟨⟨d1, d2⟩, d3⟩, d4⟩ := h7
              exact s_par2 (ps_par g.calm g.nd a1 c1 h6 (by rw [g.sc]; exact h2) (by rw [g.sc]; exact h3) (pa_cons (snd ta' g d1).pe (pa_cons (snd tb' g d3).pe pa_nil (notStar_each (noStar_ d4))) (notStar_each (noStar_ d2))) sw) a4 c4 h6
            · cases h7
        · rename_i i b1 j b2 l b3 x p1 y p2 z p3 u v w
          simp only [Bool.and_eq_true, decide_eq_true_eq, Bool.not_eq_true', decide_eq_false_iff_not] at h
          obtain ⟨⟨⟨⟨⟨⟨⟨⟨⟨⟨⟨⟨⟨rfl, rfl⟩, rfl⟩, rfl⟩, h2⟩, h3⟩, h4⟩, h5⟩, h6⟩, h7⟩, h8⟩, h9⟩, h10⟩, h11⟩ := h
          obtain ⟨a1, a2, a3, a4⟩ := g.nml h5
          obtain ⟨c1, c2, c3, c4⟩ := g.nml h6
          obtain ⟨e1, e2, e3, e4⟩ := g.nml h7
          exact s_par3F (ps_par3 g.calm g.nd a1 c1 e1 h8 h9 h10 (by rw [g.sc]; exact h2) (by rw [g.sc]; exact h3) (by rw [g.sc]; exact h4) (snds es g h11) sw) a4 c4 e4
        · cases h
    · cases h
  | .unp is e, st, g, hp, ht, h => by
    unfold chkS at h
    split at h
    · simp only [Bool.and_eq_true] at h
      obtain ⟨⟨h1, h2⟩, h3⟩ := h
      obtain ⟨n1, n2, n3⟩ := gs_of g h1
      exact s_unp (ps_asg (snd e g h2).pe (g_tup g.calm n1 n2 n3) swapTup (notTup_swp h3 _) rfl) (nms_out h1)
    · cases h
  | .aug i o e, st, g, hp, ht, h => by
    unfold chkS at h
    split at h
    · simp only [Bool.and_eq_true, decide_eq_true_eq] at h
      obtain ⟨⟨⟨h1, rfl⟩, h3⟩, h4⟩ := h
      obtain ⟨k1, k2, k3, k4⟩ := g.nml h1
      refine s_aug g.nd k1 k2 k3 k4 (snd e g h3).pe ?_
      cases o <;> first | exact .inl rfl | exact .inr rfl | cases h4
    · cases h
  | .app i e, st, g, hp, ht, h => by
    unfold chkS at h
    split at h
    · simp only [Bool.and_eq_true, decide_eq_true_eq] at h
      obtain ⟨⟨⟨⟨rfl, h1⟩, h2⟩, h3⟩, h4⟩ := h
      obtain ⟨k1, k2, k3, k4⟩ := g.nm h1
      exact s_app k1 k2 k3 k4 (snd e g h2).pe (noStar_ h3) h4
    · cases h
  | .seti i ix e, st, g, hp, ht, h => by
    unfold chkS at h
    split at h
    · simp only [Bool.and_eq_true] at h
      obtain ⟨⟨⟨h1, h2⟩, h3⟩, h4⟩ := h
      obtain ⟨k1, k2, k3, k4⟩ := g.nm h1
      exact s_seti k1 k2 k3 k4 (snd e g h2).pe (snd ix g h3).pe h4
    · cases h
  | .popv j i, st, g, hp, ht, h => by
    unfold chkS at h
    split at h
    · simp only [Bool.and_eq_true, decide_eq_true_eq] at h
      obtain ⟨⟨⟨rfl, h1⟩, h2⟩, h3⟩ := h
      obtain ⟨k1, k2, k3, k4⟩ := g.nm h1
      obtain ⟨c1, c2, c3, c4⟩ := g.nml h2
      exact s_popv g.nd k1 k2 k3 k4 h3 c1 c2 c3 c4
    · cases h
  | .popat i ix, st, g, hp, ht, h => by
    unfold chkS at h
    split at h
    · simp only [Bool.and_eq_true, decide_eq_true_eq] at h
      obtain ⟨⟨⟨⟨rfl, h1⟩, h2⟩, h3⟩, h4⟩ := h
      obtain ⟨k1, k2, k3, k4⟩ := g.nm h1
      exact s_popat k1 k2 k3 k4 (snd ix g h2).pe (noStar_ h3) h4
    · cases h
  | .ins i ix e, st, g, hp, ht, h => by
    unfold chkS at h
    split at h
    · simp only [Bool.and_eq_true, decide_eq_true_eq] at h
      obtain ⟨⟨⟨⟨⟨⟨rfl, h1⟩, h2⟩, h3⟩, h4⟩, h5⟩, h6⟩ := h
      obtain ⟨k1, k2, k3, k4⟩ := g.nm h1
      exact s_ins k1 k2 k3 k4 (snd ix g h2).pe (noStar_ h3) (snd e g h4).pe (noStar_ h5) h6
    · cases h
  | .tini i e, st, g, hp, ht, h => by
    unfold chkS at h
    split at h
    · rename_i x _ v _
      simp only [Bool.and_eq_true, Bool.or_eq_true, decide_eq_true_eq] at h
      obtain ⟨⟨⟨⟨⟨rfl, h1⟩, h2⟩, h3⟩, h4⟩, h5⟩ := h
      have hl : L2.Loc X.env.scope x ∧ (X.fn x = true ∨ X.env.scope.names.lookup x = some .local) := by
        unfold L2.Loc
        rw [g.sc]
        rcases h3 with h3 | h3
        · exact ⟨.inl h3, .inr h3⟩
        · exact ⟨.inr h3.2, .inl (g.fn x h3.1)⟩
      exact s_tini h1 (ht rfl) (ps_set g.nd (by rw [g.N]; exact h2) hl.1 (snd e g h4).pe (notComp_ h5 _ _ _) hl.2)
    · cases h
  | .tset ix e, st, g, hp, ht, h => by
    unfold chkS at h
    split at h
    · simp only [Bool.and_eq_true] at h
      obtain ⟨⟨⟨h1, h2⟩, h3⟩, h4⟩ := h
      obtain ⟨i, k0, k1, k2, k3, k4⟩ := g.tape h1
      exact s_tset k0 k1 k2 k3 k4 (snd e g h2).pe (snd ix g h3).pe h4
    · cases h
  | .ite c a b, st, g, hp, ht, h => by
    unfold chkS at h
    split at h
    · simp only [Bool.and_eq_true] at h
      exact s_if (snd c g h.1.1).pt (sndSs a g hp ht h.1.2) (sndSs b g hp ht h.2)
    · cases h
  | .for_ tg it body, st, g, hp, ht, h => by
    unfold chkS at h
    split at h
    · simp only [Bool.and_eq_true] at h
      obtain ⟨⟨⟨⟨h1, h2⟩, h3⟩, h4⟩, h5⟩ := h
      refine s_for hp g.calm (sndI it g h1 true) (g_of g h3) (sndSs body g hp ht h4) (noSet_ h2 _) fun i hi hm => ?_
      have := List.all_eq_true.mp h5 i hm
      simp [hi] at this
    · cases h
  | .while_ c body, st, g, hp, ht, h => by
    unfold chkS at h
    split at h
    · simp only [Bool.and_eq_true] at h
      exact s_while hp (snd c g h.1).pt (sndSs body g hp ht h.2)
    · cases h
  | .ret e, st, g, hp, ht, h => by
    unfold chkS at h
    split at h
    · exact s_ret (snd e g h).pe
    · split at h
      · exact s_retN
      · cases h
    · cases h
  | .pass, st, g, hp, ht, h => by
    unfold chkS at h
    split at h
    · exact s_pass
    · cases h
  | .frz _, st, g, hp, ht, h => by
    unfold chkS at h
    cases h
theorem sndSs : ∀ (ss : Ss) {sts : List Stmt}, Good X Z q sc Φ Γ → PassesOwn (model X.prog X.w) X.A X.env X.xe → (tp = true → ∀ a, ¬ ta a) → chkSs Z tp ss q sc sts = true → PSs X sts (rSt X.K Z.C ta G₀ H₀ (exSs Φ Γ ss))
  | .nil, sts, g, hp, ht, h => by
    unfold chkSs at h
    split at h
    · exact ss_nil
    · cases h
  | .cons s ss, sts, g, hp, ht, h => by
    unfold chkSs at h
    split at h
    · rename_i i
      exact ss_frz (sndSs ss g hp ht h)
    · split at h
      · simp only [Bool.and_eq_true] at h
        exact ss_cons (sndS s g hp ht h.1) (sndSs ss g hp ht h.2)
      · cases h
end
end
end Ev

set_option Elab.async false
set_option linter.all false
set_option maxRecDepth 100000
set_option maxHeartbeats 2000000
/-! EvN: defs keep the evaluator's word; a law from its plain law. -/
namespace Ev
open PySem PySem.Spec PyProof.Rows L2
/-- one def of the text: its place in the top, its names, its parameters, the drawing list's place -/
structure Row where
  ix : Nat
  name : Str
  N : List Str
  ps : List Str
  C : Option Nat
  d : Def
abbrev Tab := List Row
def Tab.get (T : Tab) (x : Str) : Option Row := T.find? fun r => r.name == x
def Tab.P (T : Tab) (x : Str) : Option Def := (T.get x).map (·.d)
def Tab.fs (T : Tab) (x : Str) : Option (Nat × Bool) := (T.get x).map fun r => (r.d.np, r.d.tape)
def staOf (T : Tab) (gs : List Str) (r : Row) : Sta := ⟨r.N, r.C, T.fs, fun x => decide (x ∈ gs)⟩
def cOk (d : Def) (C : Option Nat) : Bool := if d.tape then decide (C = some 0) && decide (1 ≤ d.np) else (match C with
  | none => true
  | some i => decide (d.np ≤ i))
def rowOk (T : Tab) (gs : List Str) (r : Row) (sc : Scope) (bd : List Stmt) : Bool :=
  C8.scC r.N r.ps sc && decide (r.d.np = r.ps.length) && decide (r.d.ns = r.N.length) && cOk r.d r.C && chkSs (staOf T gs r) (!r.d.tape) r.d.body (fun _ => true) sc bd
theorem entry_some {ds : List PyData} {k i : Nat} {r : R} (h : (ds.map (fun x => some (R.val x)) ++ List.replicate k none)[i]? = some (some r)) : ∃ d, ds[i]? = some d ∧ r = .val d := by
  rw [List.getElem?_append] at h
  split at h
  · rw [List.getElem?_map] at h
    cases hq : ds[i]? with
    | none => rw [hq] at h; cases h
    | some d => rw [hq] at h; cases h; exact ⟨d, rfl, rfl⟩
  · rw [List.getElem?_replicate] at h
    split at h
    · cases h
    · cases h
theorem start_some {vs : List V} {k i : Nat} {v : V} (h : vs[i]? = some v) : (vs.map some ++ List.replicate k none)[i]? = some (some v) := by
  have hi : i < vs.length := by
    by_cases hv : i < vs.length
    · exact hv
    · rw [List.getElem?_eq_none (by omega)] at h; cases h
  rw [List.getElem?_append_left (by simpa using hi), List.getElem?_map, h]
  rfl
theorem _root_.L2.Room.in2 {k : Nat} {A : Around} (r : Room (k + 1) A) : Room k A.in1.in1 :=
  ⟨r.hd, by have := r.dp; show A.depth + 3 * k + 5 < _; omega, by have := r.un; show A.units + 1 + 1 + 16 * k + 200 < _; omega⟩
section
variable {K : PySem.W.Frag} {C : Option Nat} {G H : Hp} {vs : List V} {ds : List PyData} {N : List Str}
/-- the start of a def without the drawing list -/
theorem fn_start {k : Nat} (l : Le G H) (rp : RpAll K G vs ds) (hk : N.length - vs.length = k) (hl : vs.length ≤ N.length) (hC : ∀ i, C = some i → vs.length ≤ i) : Fn K C (fun _ => False) G H (ds.map (fun x => some (R.val x)) ++ List.replicate k none) [] G (start N vs) H := by
  subst hk
  have noown : ∀ (i : Nat) (xs : List PyData), (ds.map (fun x => some (R.val x)) ++ List.replicate (N.length - vs.length) none)[i]? ≠ some (some (R.own xs)) := fun i xs h => by
    obtain ⟨d, _, e⟩ := entry_some h
    cases e
  have notad : ∀ a, ¬ tad C (start N vs) a := fun a ⟨i, hi, h⟩ => by
    have := hC i hi
    unfold L2.start at h
    rw [List.getElem?_append_right (by simpa using this), List.getElem?_replicate] at h
    split at h
    · cases h
    · cases h
  refine ⟨⟨l, ?_, fun i d h => ?_, fun i xs h => absurd h (noown i xs), fun i xs h => ?_, fun i j xs ys a _ h => absurd h (noown i xs), fun h => absurd rfl h, fun a h => absurd h (notad a), fun a j xs h => absurd h (notad a)⟩, Ext.rfl l, fun i xs a h => absurd h (noown i xs), fun a h => absurd h (notad a), fun a h => h.elim, fun i r hi h => ?_⟩
  · have := rp.length
    simp [L2.start, this]
  · obtain ⟨d', h1, e⟩ := entry_some h
    cases e
    obtain ⟨v, h2, h3⟩ := rp.get h1
    exact ⟨v, start_some h2, h3⟩
  · obtain ⟨d, _, e⟩ := entry_some h
    cases e
  · obtain ⟨d', h1, e⟩ := entry_some h
    have := hC i hi
    rw [List.getElem?_eq_none (by rw [← rp.length]; exact this)] at h1
    cases h1
/-- .. with it -/
theorem fn_startT {k : Nat} {ta : Addr} {t : Tape} (l : Le G H) (rp : RpAll K G vs ds) (hk : N.length - (vs.length + 1) = k) (hl : vs.length + 1 ≤ N.length) (o : OwnAt K G H ta t) : Fn K (some 0) (fun a => a = ta) G H (none :: (ds.map (fun x => some (R.val x)) ++ List.replicate k none)) t G (start N (.ref ta :: vs)) H := by
  subst hk
  have noown : ∀ (i : Nat) (xs : List PyData), (none :: (ds.map (fun x => some (R.val x)) ++ List.replicate (N.length - (vs.length + 1)) none))[i]? ≠ some (some (R.own xs)) := fun i xs h => by
    cases i with
    | zero => cases h
    | succ i =>
      obtain ⟨d, _, e⟩ := entry_some (by simpa using h)
      cases e
  have istad : tad (some 0) (start N (.ref ta :: vs)) ta := ⟨0, rfl, rfl⟩
  have one : ∀ a, tad (some 0) (start N (.ref ta :: vs)) a → a = ta := fun a h => tad_one h istad
  refine ⟨⟨l, ?_, fun i d h => ?_, fun i xs h => absurd h (noown i xs), fun i xs h => ?_, fun i j xs ys a _ h => absurd h (noown i xs), fun _ => ⟨ta, istad⟩, fun a h => by rw [one a h]; exact o, fun a j xs _ h => absurd h (noown j xs)⟩, Ext.rfl l, fun i xs a h => absurd h (noown i xs), fun a h => .inl (one a h), fun a h => by
    have h : a = ta := h
    rw [h]; exact istad, fun i r hi h => ?_⟩
  · have := rp.length
    simp [L2.start, this]
  · cases i with
    | zero => cases h
    | succ i =>
      obtain ⟨d', h1, e⟩ := entry_some (by simpa using h)
      cases e
      obtain ⟨v, h2, h3⟩ := rp.get h1
      refine ⟨v, ?_, h3⟩
      show (some (V.ref ta) :: (vs.map some ++ List.replicate _ none))[i + 1]? = _
      rw [List.getElem?_cons_succ]
      exact start_some h2
  · cases i with
    | zero => cases h
    | succ i =>
      obtain ⟨d, _, e⟩ := entry_some (by simpa using h)
      cases e
  · cases hi
    cases h
end
/-- what is known of the module -/
structure Known (K : PySem.W.Frag) (mg : Str → Option Value) (T : Tab) (gs : List Str) (Γ : Str → Option PyData) (sc : Row → Scope) (bd : Row → List Stmt) (ar : Row → Arguments) : Prop where
  fre : ∀ x ∈ BN, mg x = none
  con : ∀ x ∈ gs, ∃ u v, mg x = some u ∧ RelV v u ∧ ∀ d, Γ x = some d → ∀ G, Rp K G v d
  fns : ∀ r ∈ T, ∃ f fd, FunD K r.name r.name (ar r) (bd r) (sc r) [] [] f fd ∧ mg r.name = some (.ref f) ∧ Binds K fd r.ps []
theorem get_mem {T : Tab} {x : Str} {r : Row} (h : T.get x = some r) : r ∈ T ∧ r.name = x := by
  unfold Tab.get at h
  have h1 := List.mem_of_find?_eq_some h
  have h2 := List.find?_some h
  exact ⟨h1, by simpa using h2⟩
section
variable {P : Program} {w : World} {K : PySem.W.Frag} {mg : Str → Option Value} {base : Heap} {T : Tab} {gs : List Str} {Γ : Str → Option PyData} {sc : Row → Scope} {bd : Row → List Stmt} {ar : Row → Arguments}
theorem callD_some {n : Nat} {x : Str} {r : Row} {ds : List PyData} {t t' : Tape} {q : R} (hr : T.get x = some r) (h : callD T.P Γ (n + 1) x ds t = some (q, t')) : ds.length + (if r.d.tape then 1 else 0) = r.d.np ∧ r.d.np ≤ r.d.ns ∧ ∃ o ρ', exSs (callD T.P Γ n) Γ r.d.body (entry r.d ds) t = some ((o, ρ'), t') ∧ q = outR (o, ρ') := by
  unfold callD at h
  have : T.P x = some r.d := by unfold Tab.P; rw [hr]; rfl
  rw [this] at h
  simp only at h
  have hc : ds.length + (if r.d.tape then 1 else 0) = r.d.np ∧ r.d.np ≤ r.d.ns := Classical.byContradiction fun hc => by
    rw [if_neg hc] at h
    cases h
  rw [if_pos hc] at h
  obtain ⟨⟨o, ρ'⟩, t1, h1, h2⟩ := bnd_some h
  obtain ⟨rfl, rfl⟩ := ret_some h2
  exact ⟨hc.1, hc.2, o, ρ', h1, rfl⟩
theorem fn_row {n m : Nat} {r : Row} {f : Addr} {fd : FuncData} (hx : T.get r.name = some r) (hok : rowOk T gs r (sc r) (bd r) = true) (F : FunD K r.name r.name (ar r) (bd r) (sc r) [] [] f fd) (kn : Known K mg T gs Γ sc bd ar)
    (cal : ∀ x np tp, T.fs x = some (np, tp) → ∃ fa fd ps, FnOk P w K mg base CX0 m fa fd ps (spEv K (callD T.P Γ n) x np tp) ∧ mg x = some (.ref fa) ∧ PySem.W.keepIn K (.ref fa) = true ∧ Binds K fd ps []) :
    FnOk P w K mg base CX0 (m + 1 + 1) f fd r.ps (spEv K (callD T.P Γ (n + 1)) r.name r.d.np r.d.tape) := by
  unfold rowOk at hok
  simp only [Bool.and_eq_true, decide_eq_true_eq] at hok
  obtain ⟨⟨⟨⟨h1, h2⟩, h3⟩, h4⟩, h5⟩ := hok
  have S := C8.fnScope_by h1
  have good : ∀ (cdv : Value) (A : Around) (outer : List PySem.Env) (s : Shared) (H : Hp) (E : XK), Room (m + 1) (A.deeper (envOfC r.name (sc r) s.heap.objs.size f cdv)) → Good (cxOf CX0 P w K mg base r.N r.name (sc r) f cdv A outer s H E).nox (staOf T gs r) (fun _ => true) (sc r) (callD T.P Γ n) Γ := fun cdv A outer s H E hr =>
    { N := rfl, nd := S.nd, sc := rfl, calm := rfl, hu := by have := hr.un; show (A.deeper _).units + 65 < cLine; omega, fn := fun _ _ => rfl, fre := kn.fre,
      fun_ := fun x np tp hxx => by
        obtain ⟨fa, fd', ps, k1, k2, k3, k4⟩ := cal x np tp hxx
        exact ⟨m, fa, fd', ps, k1, ⟨hr.mono (Nat.le_succ m), hr.in2⟩, k2, k3, k4⟩
      con := fun x hx => kn.con x (of_decide_eq_true hx) }
  refine F.ok S (fun vs H Q E h => ?_) (fun cdv A outer s H vs Q E hr h => ?_)
  · cases ht : r.d.tape with
    | false => rw [ht] at h; obtain ⟨G, ds, q, t', hl, _⟩ := h; rw [hl, h2]
    | true => rw [ht] at h; obtain ⟨G, ds, t, q, t', ta, vs', hl, _⟩ := h; rw [hl, h2]
  · cases ht : r.d.tape with
    | false =>
      rw [ht] at h
      obtain ⟨G, ds, q, t', hl, le, rp, hc, post⟩ := h
      obtain ⟨c1, c2, o, ρ', hex, rfl⟩ := callD_some hx hc
      have hC : ∀ i, r.C = some i → vs.length ≤ i := fun i hi => by
        unfold cOk at h4
        rw [ht, hi] at h4
        simp only [Bool.false_eq_true, if_false, decide_eq_true_eq] at h4
        rw [hl]; exact h4
      have ent : entry r.d ds = ds.map (fun x => some (R.val x)) ++ List.replicate (r.d.ns - r.d.np) none := by unfold entry; rw [ht]; rfl
      have hf := fn_start (N := r.N) (C := r.C) le rp (k := r.d.ns - r.d.np) (by rw [hl, h3]) (by rw [hl, ← h3]; exact c2) hC
      refine ⟨_, PSs.nox (sndSs (ta := fun _ => False) (G₀ := G) (H₀ := H) (tp := !r.d.tape) r.d.body (good cdv A outer s H E hr) PassesOwn.never (fun _ _ z => z) h5), ?_⟩
      rw [ent] at hex
      refine ⟨_, _, G, o, ρ', t', hf, hex, fun e G' σ' H' f' _ => ?_, fun q' e v G' H' x _ rr => ?_⟩
      · subst e
        exact post .non G' H' f'.ext.strip0 .non
      · subst e
        exact post v G' H' x rr
    | true =>
      rw [ht] at h
      obtain ⟨G, ds, t, q, t', ta, vs', hl, rfl, le, rp, ow, hne, hc, post⟩ := h
      obtain ⟨c1, c2, o, ρ', hex, rfl⟩ := callD_some hx hc
      have hC : r.C = some 0 := by
        unfold cOk at h4
        rw [ht] at h4
        simp only [if_true, Bool.and_eq_true, decide_eq_true_eq] at h4
        exact h4.1
      have ent : entry r.d ds = none :: (ds.map (fun x => some (R.val x)) ++ List.replicate (r.d.ns - r.d.np) none) := by unfold entry; rw [ht]; rfl
      have hl' : vs'.length + 1 = r.d.np := by simpa using hl
      have hf := fn_startT (N := r.N) le rp (k := r.d.ns - r.d.np) (by rw [hl', h3]) (by rw [hl', ← h3]; exact c2) ow
      have gd := good cdv A outer s H E hr
      have key := sndSs (ta := fun a => a = ta) (G₀ := G) (H₀ := H) (tp := !r.d.tape) r.d.body gd PassesOwn.never (fun z => by rw [ht] at z; cases z) h5
      refine ⟨_, PSs.nox key, ?_⟩
      rw [ent] at hex
      show rSt K r.C _ G H _ _ _ _
      rw [hC]
      refine ⟨_, _, G, o, ρ', t', hf, hex, fun e G' σ' H' f' _ => ?_, fun q' e v G' H' x ho rr => ?_⟩
      · subst e
        exact post .non G' H' f'.ext.strip0 (f'.env.tp2 ta (f'.tq ta rfl)) .non
      · subst e
        exact post v G' H' x (ho ta rfl) rr
/-- every def, at any depth -/
theorem all_ok (kn : Known K mg T gs Γ sc bd ar) (ok : ∀ r ∈ T, T.get r.name = some r ∧ rowOk T gs r (sc r) (bd r) = true) : ∀ (n : Nat) (x : Str) (np : Nat) (tp : Bool), T.fs x = some (np, tp) →
    ∃ fa fd ps, FnOk P w K mg base CX0 (2 * n) fa fd ps (spEv K (callD T.P Γ n) x np tp) ∧ mg x = some (.ref fa) ∧ PySem.W.keepIn K (.ref fa) = true ∧ Binds K fd ps [] := by
  have row : ∀ x np tp, T.fs x = some (np, tp) → ∃ r ∈ T, r.name = x ∧ np = r.d.np ∧ tp = r.d.tape := fun x np tp h => by
    unfold Tab.fs at h
    cases hg : T.get x with
    | none => rw [hg] at h; cases h
    | some r =>
      rw [hg] at h
      cases h
      exact ⟨r, (get_mem hg).1, (get_mem hg).2, rfl, rfl⟩
  intro n
  induction n with
  | zero =>
    intro x np tp h
    obtain ⟨r, hr, rfl, rfl, rfl⟩ := row x np tp h
    obtain ⟨f, fd, F, hm, hb⟩ := kn.fns r hr
    have no : ∀ vs H Q E, ¬ spEv K (callD T.P Γ 0) r.name r.d.np r.d.tape vs H Q E := fun vs H Q E h => by
      cases ht : r.d.tape with
      | false => rw [ht] at h; obtain ⟨G, ds, q, t', _, _, _, hc, _⟩ := h; cases hc
      | true => rw [ht] at h; obtain ⟨G, ds, t, q, t', ta, vs', _, _, _, _, _, _, hc, _⟩ := h; cases hc
    exact ⟨f, fd, r.ps, ⟨fun vs H Q E h => absurd h (no vs H Q E), fun A outer s H args us vs Q E _ _ _ _ h => absurd h (no vs H Q E)⟩, hm, F.kp, hb⟩
  | succ n ih =>
    intro x np tp h
    obtain ⟨r, hr, rfl, rfl, rfl⟩ := row x np tp h
    obtain ⟨f, fd, F, hm, hb⟩ := kn.fns r hr
    exact ⟨f, fd, r.ps, fn_row (ok r hr).1 (ok r hr).2 F kn ih, hm, F.kp, hb⟩
end
end Ev

set_option Elab.async false
set_option linter.all false
set_option maxRecDepth 100000
set_option maxHeartbeats 1000000
/-! EvN2: constants of the module that are numbers, texts, tuples of such. -/
namespace Ev
open PySem PySem.Spec PyProof.Rows L2
mutual
/-- the module's value is this datum -/
def conB (K : PySem.W.Frag) : D → Value → Bool
  | .int i, u => match u with
    | .int j _ => decide (j = i)
    | _ => false
  | .str x, u => match u with
    | .str y _ => decide (y = x) && decide (x.length ≤ big)
    | _ => false
  | .tuple ds, u => match u with
    | .ref a => (match K.lookup a with
      | some ⟨.type c, _, .seq its _, _⟩ => decide (c = "tuple") && decide (its.size ≤ sizeLine) && decide (ds.length ≤ big) && conBs K ds its.toList
      | _ => false)
    | _ => false
  | .none, u => match u with
    | .none => true
    | _ => false
  | _, _ => false
def conBs (K : PySem.W.Frag) : List D → List Value → Bool
  | [], us => match us with
    | [] => true
    | _ => false
  | d :: ds, us => match us with
    | u :: r => conB K d u && conBs K ds r
    | _ => false
end
mutual
theorem conB_ok {K : PySem.W.Frag} : ∀ (d : D) {u : Value}, conB K d u = true → ∃ v, RelV v u ∧ ∀ G, Rp K G v d
  | .int i, u, h => by
    unfold conB at h
    split at h
    · rename_i j t
      have e : j = i := of_decide_eq_true h
      subst e
      exact ⟨.int j, ⟨t, rfl⟩, fun G => .int j⟩
    · cases h
  | .str x, u, h => by
    unfold conB at h
    split at h
    · rename_i j t
      rw [Bool.and_eq_true, decide_eq_true_eq, decide_eq_true_eq] at h
      obtain ⟨rfl, h⟩ := h
      exact ⟨.str j, ⟨t, rfl⟩, fun G => .str j h⟩
    · cases h
  | .tuple ds, u, h => by
    unfold conB at h
    split at h
    · rename_i a
      split at h
      · rename_i c od its n sl hk
        simp only [Bool.and_eq_true, decide_eq_true_eq] at h
        obtain ⟨⟨⟨rfl, h1⟩, h2⟩, h3⟩ := h
        obtain ⟨vs, rv, rp⟩ := conBs_ok ds h3
        exact ⟨.ref a, rfl, fun G => .tup (.inr ⟨_, its, n, hk, rfl, rfl, h1, rv⟩) (rp G) h2⟩
      · cases h
    · cases h
  | .none, u, h => by
    unfold conB at h
    split at h
    · exact ⟨.non, rfl, fun G => .non⟩
    · cases h
  | .bool _, u, h => by simp [conB] at h
  | .list _, u, h => by simp [conB] at h
  | .dict _, u, h => by simp [conB] at h
theorem conBs_ok {K : PySem.W.Frag} : ∀ (ds : List D) {us : List Value}, conBs K ds us = true → ∃ vs, Vals vs us ∧ ∀ G, RpAll K G vs ds
  | [], us, h => by
    unfold conBs at h
    split at h
    · exact ⟨[], .nil, fun _ => .nil⟩
    · cases h
  | d :: ds, us, h => by
    unfold conBs at h
    split at h
    · rename_i u r
      rw [Bool.and_eq_true] at h
      obtain ⟨v, r1, q1⟩ := conB_ok d h.1
      obtain ⟨vs, r2, q2⟩ := conBs_ok ds h.2
      exact ⟨v :: vs, .cons r1 r2, fun G => .cons (q1 G) (q2 G)⟩
    · cases h
end
def conE (K : PySem.W.Frag) (p : Str × D) : Bool := match PySem.W.nsIn K mainGlobals p.1 with
  | some (some u) => conB K p.2 u
  | _ => false
theorem con_ok {K : PySem.W.Frag} {h : Heap} {mg : Str → Option Value} (X : K.In h) (G : h.Ns mainGlobals mg) {x : Str} {d : D} (c : conE K (x, d) = true) : ∃ u v, mg x = some u ∧ RelV v u ∧ ∀ G, Rp K G v d := by
  unfold conE at c
  split at c
  · rename_i u e
    obtain ⟨v, r, q⟩ := conB_ok d c
    exact ⟨u, v, PySem.W.mg_of X G e, r, q⟩
  · cases c
/-- what is told of the module: the facts, the defs, the constants -/
def SaysC (fa : List He.Fa) (fn : List He.DefD) (cs : List (Str × D)) (K : PySem.W.Frag) : Prop := He.SaysD fa fn K ∧ (cs.all fun p => conE K p) = true
abbrev AlC : Type := He.AlD × Bool
def obsC (n : Nat) (fa : List He.Fa) (fn : List He.DefD) (cs : List (Str × D)) (g : Addr → Option Obj) : AlC := (He.obsDG n fa fn g, cs.all fun p => conE (He.frG g (He.asD g n)) p)
def hookC (n : Nat) (fa : List He.Fa) (fn : List He.DefD) (cs : List (Str × D)) : PySem.W.Hook where
  α := AlC
  obs := fun s => obsC n fa fn cs s.heap.get?
  val := fun _ => (He.valD fn, true)
  says := fun _ h => ∃ K : PySem.W.Frag, K.In h ∧ SaysC fa fn cs K
  of := fun _ _ e => ⟨_, He.frG_in, congrArg (fun z : AlC => z.1) e, congrArg (fun z : AlC => z.2) e⟩
  keeps := fun _ _ _ ⟨K, hK, c⟩ k => ⟨K, PySem.W.Frag.In.keeps hK k, c⟩
theorem obsC_eq {n : Nat} {fa : List He.Fa} {fn : List He.DefD} {cs : List (Str × D)} {g : Addr → Option Obj} {s : Shared} (h : ∀ a, g a = s.heap.get? a) : obsC n fa fn cs g = (hookC n fa fn cs).obs s := by
  have e : g = s.heap.get? := funext h
  rw [e] <;> rfl
theorem SaysC.con {fa : List He.Fa} {fn : List He.DefD} {cs : List (Str × D)} {K : PySem.W.Frag} {h : Heap} {mg : Str → Option Value} (c : SaysC fa fn cs K) (X : K.In h) (G : h.Ns mainGlobals mg) {x : Str} {d : D} (hx : (x, d) ∈ cs) : ∃ u v, mg x = some u ∧ RelV v u ∧ ∀ G, Rp K G v d :=
  con_ok X G (List.all_eq_true.mp c.2 _ hx)
end Ev

set_option Elab.async false
set_option linter.all false
set_option maxRecDepth 100000
set_option maxHeartbeats 2000000
/-! EvO: a law's promise from its plain law. -/
namespace Ev
open PySem PySem.Spec PyProof.Rows L2
def spLaw (K : PySem.W.Frag) : Sp := fun vs H Q _ => ∃ (a : Addr) (ns : List Int), vs = [.ref a] ∧ ns.length ≤ 63 ∧ SqL K H a (ns.map V.int) ∧ ∀ H', Q (.bl true) H'
theorem rp_all_ints {K : PySem.W.Frag} {G : Hp} : ∀ ns : List Int, RpAll K G (ns.map V.int) (ns.map PyData.int)
  | [] => .nil
  | n :: ns => .cons (.int n) (rp_all_ints ns)
section
variable {P : Program} {w : World} {K : PySem.W.Frag} {mg : Str → Option Value} {base : Heap} {T : Tab} {gs : List Str} {Γ : Str → Option PyData} {sc : Row → Scope} {bd : Row → List Stmt} {ar : Row → Arguments}
/-- the plain law: at every script the evaluator says True -/
def Plain (T : Tab) (Γ : Str → Option PyData) (n : Nat) : Prop := ∀ ns : List Int, ns.length ≤ 63 → ∃ t, callD T.P Γ n "law" [.list (ns.map PyData.int)] [] = some (.val (.bool true), t)
theorem law_ok {r : Row} {f : Addr} {fd : FuncData} {n : Nat} (kn : Known K mg T gs Γ sc bd ar) (ok : ∀ r ∈ T, T.get r.name = some r ∧ rowOk T gs r (sc r) (bd r) = true) (hr : r ∈ T) (hn : r.name = "law") (hp : r.d.np = 1) (ht : r.d.tape = false)
    (F : FunD K r.name r.name (ar r) (bd r) (sc r) [] [] f fd) (plain : Plain T Γ (n + 1)) : FnOk P w K mg base CX0 (2 * n + 1 + 1) f fd r.ps (spLaw K) := by
  have key := fn_row (P := P) (w := w) (base := base) (n := n) (m := 2 * n) (ok r hr).1 (ok r hr).2 F kn (all_ok kn ok n)
  rw [ht, hp] at key
  refine key.imp fun vs H Q E h => ?_
  obtain ⟨a, ns, rfl, hl, hS, hQ⟩ := h
  obtain ⟨t, hc⟩ := plain ns hl
  refine ⟨H, [.list (ns.map PyData.int)], .val (.bool true), t, rfl, Le.rfl, .cons (.lst hS (rp_all_ints ns) (by rw [List.length_map]; simp only [big]; omega)) .nil, by rw [hn]; exact hc, fun v G' H' x rr => ?_⟩
  cases rr
  exact hQ H'
end
end Ev

set_option Elab.async false
set_option linter.all false
set_option maxRecDepth 100000
set_option maxHeartbeats 1000000
/-! EvP: how a run of the evaluator is shown to end well. -/
namespace Ev
open PySem
/-- it ends, and Q holds of what it gives -/
@[irreducible] def Ok {α : Type} (m : M α) (t : Tape) (Q : α → Tape → Prop) : Prop := ∃ a t', m t = some (a, t') ∧ Q a t'
theorem Ok.mk {α : Type} {m : M α} {t t' : Tape} {a : α} {Q : α → Tape → Prop} (h : m t = some (a, t')) (q : Q a t') : Ok m t Q := by
  unfold Ok
  exact ⟨a, t', h, q⟩
theorem Ok.out {α : Type} {m : M α} {t : Tape} {Q : α → Tape → Prop} (h : Ok m t Q) : ∃ a t', m t = some (a, t') ∧ Q a t' := by
  unfold Ok at h
  exact h
theorem Ok.mono {α : Type} {m : M α} {t : Tape} {Q Q' : α → Tape → Prop} (h : Ok m t Q) (w : ∀ a t', Q a t' → Q' a t') : Ok m t Q' := by
  obtain ⟨a, t', e, q⟩ := h.out
  exact .mk e (w a t' q)
section
variable {α β : Type} {t : Tape}
theorem ok_bnd {m : M α} {f : α → M β} {Q : β → Tape → Prop} : Ok (bnd m f) t Q ↔ Ok m t fun a t1 => Ok (f a) t1 Q := by
  unfold Ok bnd
  constructor
  · rintro ⟨b, t', h, q⟩
    split at h
    · rename_i a t1 e
      exact ⟨a, t1, e, b, t', h, q⟩
    · cases h
  · rintro ⟨a, t1, e, b, t', h, q⟩
    exact ⟨b, t', by rw [e]; exact h, q⟩
theorem ok_ret {a : α} {Q : α → Tape → Prop} : Ok (ret a) t Q ↔ Q a t := by
  unfold Ok ret
  constructor
  · rintro ⟨b, t', h, q⟩
    cases h
    exact q
  · exact fun q => ⟨a, t, rfl, q⟩
theorem ok_lift {o : Option α} {Q : α → Tape → Prop} : Ok (lift o) t Q ↔ ∃ a, o = some a ∧ Q a t := by
  unfold Ok
  cases o with
  | none =>
    constructor
    · rintro ⟨b, t', h, q⟩; cases h
    · rintro ⟨a, h, q⟩; cases h
  | some a =>
    constructor
    · rintro ⟨b, t', h, q⟩; cases h; exact ⟨_, rfl, q⟩
    · rintro ⟨b, h, q⟩; cases h; exact ⟨_, _, rfl, q⟩
theorem ok_congr {m : M α} {Q Q' : α → Tape → Prop} (h : ∀ a t, Q a t ↔ Q' a t) : Ok m t Q ↔ Ok m t Q' := ⟨fun q => q.mono fun a t' z => (h a t').1 z, fun q => q.mono fun a t' z => (h a t').2 z⟩
theorem ok_needT {m : M α} {Q : α → Tape → Prop} : Ok (needT m) t Q ↔ t ≠ [] ∧ Ok m t Q := by
  unfold Ok
  cases t with
  | nil =>
    constructor
    · rintro ⟨b, t', h, q⟩; cases h
    · rintro ⟨h, _⟩; exact absurd rfl h
  | cons x r => exact ⟨fun h => ⟨by simp, h⟩, fun h => h.2⟩
theorem ok_if {c : Prop} [Decidable c] {m m' : M α} {Q : α → Tape → Prop} : Ok (if c then m else m') t Q ↔ (c → Ok m t Q) ∧ (¬ c → Ok m' t Q) := by
  by_cases h : c
  · rw [if_pos h]; exact ⟨fun q => ⟨fun _ => q, fun z => absurd h z⟩, fun q => q.1 h⟩
  · rw [if_neg h]; exact ⟨fun q => ⟨fun z => absurd z h, fun _ => q⟩, fun q => q.2 h⟩
end
def negR : R → Option R
  | .val (.int i) => some (.val (.int (-i)))
  | _ => none
def lrngR : R → Option R
  | .val (.int n) => if n.natAbs ≤ big then some (.own ((List.range n.toNat).map fun i => .int (i : Nat))) else none
  | _ => none
def rngR : R → Option (List D)
  | .val (.int n) => if n.natAbs ≤ big then some ((List.range n.toNat).map fun i => .int (i : Nat)) else none
  | _ => none
def revrR : R → Option (List D)
  | .val (.int n) => if n.natAbs ≤ big then some ((List.range n.toNat).reverse.map fun i => .int (i : Nat)) else none
  | _ => none
def zipR : Option D → Option D → Option (List D)
  | some (.list xs), some (.list ys) => some (zipD xs ys)
  | some (.tuple xs), some (.tuple ys) => some (zipD xs ys)
  | _, _ => none
def augR : BOp → Option Int → Option Int → Option Int
  | .add, some a, some b => some (a + b)
  | .sub, some a, some b => some (a - b)
  | _, _, _ => none
theorem funR {α : Type} {f g : R → α} (h1 : ∀ i, f (.val (.int i)) = g (.val (.int i))) (h2 : ∀ x, (∀ i, x ≠ .val (.int i)) → f x = g x) : f = g := by
  funext x
  by_cases h : ∃ i, x = .val (.int i)
  · obtain ⟨i, rfl⟩ := h; exact h1 i
  · exact h2 x fun i e => h ⟨i, e⟩
section
variable {Φ : Call} {Γ : Str → Option D} {ρ : Env} {t : Tape}
section
variable {Q : R → Tape → Prop}
theorem ok_var {i : Nat} : Ok (ev Φ Γ (.var i) ρ) t Q ↔ ∃ r, slot ρ i = some r ∧ Q r t := by unfold ev; exact ok_lift
theorem ok_cst {d : D} : Ok (ev Φ Γ (.cst d) ρ) t Q ↔ Q (.val d) t := by unfold ev; exact ok_ret
theorem ok_glob {x : Str} : Ok (ev Φ Γ (.glob x) ρ) t Q ↔ ∃ r, (Γ x).map R.val = some r ∧ Q r t := by unfold ev; exact ok_lift
theorem ok_tup {es : Ts} : Ok (ev Φ Γ (.tup es) ρ) t Q ↔ Ok (evs Φ Γ es ρ) t fun rs t1 => ∃ r, ((fixes rs).bind fun ds => if ds.length ≤ big then some (R.val (.tuple ds)) else none) = some r ∧ Q r t1 := by
  unfold ev; rw [ok_bnd]; simp only [ok_lift]
theorem ok_lst {es : Ts} : Ok (ev Φ Γ (.lst es) ρ) t Q ↔ Ok (evs Φ Γ es ρ) t fun rs t1 => ∃ r, ((fixes rs).bind fun ds => if ds.length ≤ big then some (R.own ds) else none) = some r ∧ Q r t1 := by
  unfold ev; rw [ok_bnd]; simp only [ok_lift]
theorem ok_bin {o : BOp} {a b : T} : Ok (ev Φ Γ (.bin o a b) ρ) t Q ↔ Ok (ev Φ Γ a ρ) t fun x t1 => Ok (ev Φ Γ b ρ) t1 fun y t2 => ∃ r, bop o x.look y.look = some r ∧ Q r t2 := by
  rw [ev, ok_bnd]; simp only [ok_bnd, ok_lift]
theorem ok_neg {a : T} : Ok (ev Φ Γ (.neg a) ρ) t Q ↔ Ok (ev Φ Γ a ρ) t fun x t1 => ∃ r, negR x = some r ∧ Q r t1 := by
  have e : ev Φ Γ (.neg a) ρ = bnd (ev Φ Γ a ρ) fun x => lift (negR x) := by
    rw [ev]
    rfl
  rw [e, ok_bnd]; simp only [ok_lift]
theorem ok_not {a : T} : Ok (ev Φ Γ (.not a) ρ) t Q ↔ Ok (ev Φ Γ a ρ) t fun x t1 => ∃ b, isTrueD x = some b ∧ Q (.val (.bool (!b))) t1 := by
  rw [ev, ok_bnd]
  simp only [ok_lift]
  unfold Ok
  constructor
  · rintro ⟨x, t1, e, r, h, q⟩
    cases hx : isTrueD x with
    | none => rw [hx] at h; cases h
    | some b => rw [hx] at h; cases h; exact ⟨x, t1, e, b, hx, q⟩
  · rintro ⟨x, t1, e, b, h, q⟩
    exact ⟨x, t1, e, _, by rw [h]; rfl, q⟩
theorem ok_and {a b : T} : Ok (ev Φ Γ (.and a b) ρ) t Q ↔ Ok (ev Φ Γ a ρ) t fun x t1 => ∃ c, isTrueD x = some c ∧ (c = true → Ok (ev Φ Γ b ρ) t1 Q) ∧ (c = false → Q (.val (.bool false)) t1) := by
  rw [ev, ok_bnd]
  simp only [ok_bnd, ok_lift, ok_if, ok_ret, Bool.not_eq_true]
theorem ok_or {a b : T} : Ok (ev Φ Γ (.or a b) ρ) t Q ↔ Ok (ev Φ Γ a ρ) t fun x t1 => ∃ c, isTrueD x = some c ∧ (c = true → Q (.val (.bool true)) t1) ∧ (c = false → Ok (ev Φ Γ b ρ) t1 Q) := by
  rw [ev, ok_bnd]
  simp only [ok_bnd, ok_lift, ok_if, ok_ret, Bool.not_eq_true]
theorem ok_cmp {o : COp} {a b : T} : Ok (ev Φ Γ (.cmp o a b) ρ) t Q ↔ Ok (ev Φ Γ a ρ) t fun x t1 => Ok (ev Φ Γ b ρ) t1 fun y t2 => ∃ c, cop o x.look y.look = some c ∧ Q (.val (.bool c)) t2 := by
  rw [ev, ok_bnd]
  simp only [ok_bnd, ok_lift, Option.map_eq_some_iff]
  unfold Ok
  constructor
  · rintro ⟨x, t1, e, y, t2, e2, r, ⟨c, h, rfl⟩, q⟩
    exact ⟨x, t1, e, y, t2, e2, c, h, q⟩
  · rintro ⟨x, t1, e, y, t2, e2, c, h, q⟩
    exact ⟨x, t1, e, y, t2, e2, _, ⟨c, h, rfl⟩, q⟩
theorem ok_cmp2 {o o' : COp} {a b c : T} : Ok (ev Φ Γ (.cmp2 o o' a b c) ρ) t Q ↔ Ok (ev Φ Γ a ρ) t fun x t1 => Ok (ev Φ Γ b ρ) t1 fun y t2 => ∃ k, cop o x.look y.look = some k ∧ (k = true → Ok (ev Φ Γ c ρ) t2 fun z t3 => ∃ c, cop o' y.look z.look = some c ∧ Q (.val (.bool c)) t3) ∧ (k = false → Q (.val (.bool false)) t2) := by
  rw [ev, ok_bnd]
  simp only [ok_bnd, ok_lift, ok_if, ok_ret, Bool.not_eq_true, Option.map_eq_some_iff]
  have key : ∀ (y z : R) (t3 : Tape), (∃ r, (∃ c, cop o' y.look z.look = some c ∧ R.val (.bool c) = r) ∧ Q r t3) ↔ ∃ c, cop o' y.look z.look = some c ∧ Q (.val (.bool c)) t3 := fun y z t3 =>
    ⟨fun ⟨r, ⟨c, h, e⟩, q⟩ => ⟨c, h, by rw [e]; exact q⟩, fun ⟨c, h, q⟩ => ⟨_, ⟨c, h, rfl⟩, q⟩⟩
  simp only [key]
theorem ok_ite {c a b : T} : Ok (ev Φ Γ (.ite c a b) ρ) t Q ↔ Ok (ev Φ Γ c ρ) t fun x t1 => ∃ k, isTrueD x = some k ∧ (k = true → Ok (ev Φ Γ a ρ) t1 Q) ∧ (k = false → Ok (ev Φ Γ b ρ) t1 Q) := by
  rw [ev, ok_bnd]
  simp only [ok_bnd, ok_lift, ok_if, ok_ret, Bool.not_eq_true]
theorem ok_sub {a i : T} : Ok (ev Φ Γ (.sub a i) ρ) t Q ↔ Ok (ev Φ Γ a ρ) t fun x t1 => Ok (ev Φ Γ i ρ) t1 fun y t2 => ∃ d, subD x.look y.look = some d ∧ Q (.val d) t2 := by
  rw [ev, ok_bnd]
  simp only [ok_bnd, ok_lift, Option.map_eq_some_iff]
  unfold Ok
  constructor
  · rintro ⟨x, t1, e, y, t2, e2, r, ⟨c, h, rfl⟩, q⟩
    exact ⟨x, t1, e, y, t2, e2, c, h, q⟩
  · rintro ⟨x, t1, e, y, t2, e2, c, h, q⟩
    exact ⟨x, t1, e, y, t2, e2, _, ⟨c, h, rfl⟩, q⟩
theorem ok_slf {a i : T} : Ok (ev Φ Γ (.slf a i) ρ) t Q ↔ Ok (ev Φ Γ a ρ) t fun x t1 => Ok (ev Φ Γ i ρ) t1 fun y t2 => ∃ r, slfD x.look y.look = some r ∧ Q r t2 := by
  rw [ev, ok_bnd]; simp only [ok_bnd, ok_lift]
theorem ok_slt {a i : T} : Ok (ev Φ Γ (.slt a i) ρ) t Q ↔ Ok (ev Φ Γ a ρ) t fun x t1 => Ok (ev Φ Γ i ρ) t1 fun y t2 => ∃ r, sltD x.look y.look = some r ∧ Q r t2 := by
  rw [ev, ok_bnd]; simp only [ok_bnd, ok_lift]
theorem ok_rev {a : T} : Ok (ev Φ Γ (.rev a) ρ) t Q ↔ Ok (ev Φ Γ a ρ) t fun x t1 => ∃ r, revD x.look = some r ∧ Q r t1 := by
  rw [ev, ok_bnd]; simp only [ok_bnd, ok_lift]
theorem ok_lrng {a : T} : Ok (ev Φ Γ (.lrng a) ρ) t Q ↔ Ok (ev Φ Γ a ρ) t fun x t1 => ∃ r, lrngR x = some r ∧ Q r t1 := by
  have e : ev Φ Γ (.lrng a) ρ = bnd (ev Φ Γ a ρ) fun x => lift (lrngR x) := by
    rw [ev]
    rfl
  rw [e, ok_bnd]; simp only [ok_lift]
theorem ok_tget {i : T} : Ok (ev Φ Γ (.tget i) ρ) t Q ↔ t ≠ [] ∧ Ok (ev Φ Γ i ρ) t fun y t1 => ∃ d, subD (.list t1) y.look = some d ∧ Q (.val d) t1 := by
  rw [ev, ok_needT, ok_bnd]
  have key : ∀ (y : R) (t1 : Tape), Ok (fun t => (lift ((subD (.list t) y.look).map R.val) : M R) t) t1 Q ↔ ∃ d, subD (.list t1) y.look = some d ∧ Q (.val d) t1 := fun y t1 => by
    show Ok (fun t => _) t1 Q ↔ _
    have : Ok (fun t => (lift ((subD (.list t) y.look).map R.val) : M R) t) t1 Q ↔ Ok (lift ((subD (.list t1) y.look).map R.val)) t1 Q := by
      unfold Ok
      exact Iff.rfl
    rw [this, ok_lift]
    simp only [Option.map_eq_some_iff]
    exact ⟨fun ⟨r, ⟨c, h, e⟩, q⟩ => ⟨c, h, by rw [e]; exact q⟩, fun ⟨c, h, q⟩ => ⟨_, ⟨c, h, rfl⟩, q⟩⟩
  simp only [key]
theorem ok_call {f : Str} {es : Ts} : Ok (ev Φ Γ (.call f es) ρ) t Q ↔ Ok (evs Φ Γ es ρ) t fun rs t1 => Ok (Φ f (rs.map R.look)) [] fun r _ => ∃ r', afterCall rs r = some r' ∧ Q r' t1 := by
  rw [ev, ok_bnd]
  have key : ∀ (rs : List R) (t1 : Tape), Ok (α := R) (fun t => match Φ f (rs.map R.look) [] with
      | some (r, _) => (lift (afterCall rs r) : M R) t
      | none => none) t1 Q ↔ Ok (Φ f (rs.map R.look)) [] fun r _ => ∃ r', afterCall rs r = some r' ∧ Q r' t1 := fun rs t1 => by
    unfold Ok
    cases Φ f (rs.map R.look) [] with
    | none => simp
    | some p =>
      obtain ⟨r, t2⟩ := p
      simp only
      constructor
      · rintro ⟨a, t', h, q⟩
        obtain ⟨r', h1, h2⟩ := ok_lift.mp (.mk h q)
        exact ⟨r, t2, rfl, r', h1, h2⟩
      · rintro ⟨r0, t0, e, r', h1, h2⟩
        cases e
        exact (ok_lift.mpr ⟨r', h1, h2⟩ : Ok (lift (afterCall rs _)) t1 Q).out
  exact ok_congr key
theorem ok_callT {f : Str} {es : Ts} : Ok (ev Φ Γ (.callT f es) ρ) t Q ↔ t ≠ [] ∧ Ok (evs Φ Γ es ρ) t fun rs t1 => t1 ≠ [] ∧ Ok (Φ f (rs.map R.look)) t1 fun r t2 => ∃ r', (if rs.any isBor then none else some r) = some r' ∧ Q r' t2 := by
  rw [ev, ok_needT, ok_bnd]
  simp only [ok_bnd, ok_needT, ok_lift]
theorem ok_bi {b : Bi} {es : Ts} : Ok (ev Φ Γ (.bi b es) ρ) t Q ↔ Ok (evs Φ Γ es ρ) t fun rs t1 => ∃ r, biD b (rs.map R.look) = some r ∧ Q r t1 := by
  rw [ev, ok_bnd]; simp only [ok_bnd, ok_lift]
theorem ok_isi {a : T} {tys : List String} : Ok (ev Φ Γ (.isi a tys) ρ) t Q ↔ Ok (ev Φ Γ a ρ) t fun x t1 => ∃ c, isiD tys x.look = some c ∧ Q (.val (.bool c)) t1 := by
  rw [ev, ok_bnd]
  simp only [ok_bnd, ok_lift, Option.map_eq_some_iff]
  unfold Ok
  constructor
  · rintro ⟨x, t1, e, r, ⟨c, h, rfl⟩, q⟩
    exact ⟨x, t1, e, c, h, q⟩
  · rintro ⟨x, t1, e, c, h, q⟩
    exact ⟨x, t1, e, _, ⟨c, h, rfl⟩, q⟩
def turnF (Φ : Call) (Γ : Str → Option D) (tg : Tgt) (c : T) (g : Ge) (ρ : Env) (d : D) : M (List D) := bnd (lift (bindT tg d (wipeR ρ (slotsT tg ++ ownG g)))) fun ρ1 => bnd (ev Φ Γ c ρ1) fun x => bnd (lift (isTrueD x)) fun k => if k then evg Φ Γ g ρ1 else ret []
theorem ok_comp {tg : Tgt} {it : I} {c : T} {g : Ge} : Ok (ev Φ Γ (.comp tg it c g) ρ) t Q ↔ Ok (evi Φ Γ false it ρ) t fun ds t1 => Ok (loopL (turnF Φ Γ tg c g ρ) ds) t1 fun xs t2 => ∃ r, fitG g xs = some r ∧ Q r t2 := by
  rw [ev, ok_bnd]; simp only [ok_bnd, ok_lift]; rfl
end
section
variable {Q : List R → Tape → Prop}
theorem oks_nil : Ok (evs Φ Γ .nil ρ) t Q ↔ Q [] t := by rw [evs]; exact ok_ret
theorem oks_cons {a : T} {ts : Ts} : Ok (evs Φ Γ (.cons a ts) ρ) t Q ↔ Ok (ev Φ Γ a ρ) t fun x t1 => Ok (evs Φ Γ ts ρ) t1 fun xs t2 => Q (x :: xs) t2 := by
  rw [evs, ok_bnd]; simp only [ok_bnd, ok_ret]
theorem oks_star {a : T} {ts : Ts} : Ok (evs Φ Γ (.star a ts) ρ) t Q ↔ Ok (ev Φ Γ a ρ) t fun x t1 => ∃ ds, items x.look = some ds ∧ Ok (evs Φ Γ ts ρ) t1 fun xs t2 => Q (ds.map R.val ++ xs) t2 := by
  rw [evs, ok_bnd]; simp only [ok_bnd, ok_ret, ok_lift]
end
section
variable {Q : List D → Tape → Prop}
theorem okg_elt {e : T} : Ok (evg Φ Γ (.elt e) ρ) t Q ↔ Ok (ev Φ Γ e ρ) t fun r t1 => ∃ y, r.fix = some y ∧ Q [y] t1 := by
  rw [evg, ok_bnd]
  simp only [ok_lift, Option.map_eq_some_iff]
  unfold Ok
  constructor
  · rintro ⟨x, t1, e, r, ⟨c, h, rfl⟩, q⟩
    exact ⟨x, t1, e, c, h, q⟩
  · rintro ⟨x, t1, e, c, h, q⟩
    exact ⟨x, t1, e, _, ⟨c, h, rfl⟩, q⟩
theorem okg_for {tg : Tgt} {it : I} {c : T} {g : Ge} : Ok (evg Φ Γ (.for_ tg it c g) ρ) t Q ↔ Ok (evi Φ Γ true it ρ) t fun ds t1 => Ok (loopL (turnF Φ Γ tg c g ρ) ds) t1 Q := by
  rw [evg, ok_bnd]; rfl
theorem ok_turn {tg : Tgt} {c : T} {g : Ge} {d : D} : Ok (turnF Φ Γ tg c g ρ d) t Q ↔ ∃ ρ1, bindT tg d (wipeR ρ (slotsT tg ++ ownG g)) = some ρ1 ∧ Ok (ev Φ Γ c ρ1) t fun x t1 => ∃ k, isTrueD x = some k ∧ (k = true → Ok (evg Φ Γ g ρ1) t1 Q) ∧ (k = false → Q [] t1) := by
  unfold turnF
  rw [ok_bnd, ok_lift]
  simp only [ok_bnd, ok_lift, ok_if, ok_ret, Bool.not_eq_true]
theorem oki_ex {st : Bool} {e : T} : Ok (evi Φ Γ st (.ex e) ρ) t Q ↔ Ok (ev Φ Γ e ρ) t fun x t1 => ∃ ds, (seen st x).bind iterD = some ds ∧ Q ds t1 := by
  rw [evi, ok_bnd]; simp only [ok_lift]
theorem oki_rng {st : Bool} {e : T} : Ok (evi Φ Γ st (.rng e) ρ) t Q ↔ Ok (ev Φ Γ e ρ) t fun x t1 => ∃ ds, rngR x = some ds ∧ Q ds t1 := by
  have e : evi Φ Γ st (.rng e) ρ = bnd (ev Φ Γ e ρ) fun x => lift (rngR x) := by
    rw [evi]
    rfl
  rw [e, ok_bnd]; simp only [ok_lift]
theorem oki_revr {st : Bool} {e : T} : Ok (evi Φ Γ st (.revr e) ρ) t Q ↔ Ok (ev Φ Γ e ρ) t fun x t1 => ∃ ds, revrR x = some ds ∧ Q ds t1 := by
  have e : evi Φ Γ st (.revr e) ρ = bnd (ev Φ Γ e ρ) fun x => lift (revrR x) := by
    rw [evi]
    rfl
  rw [e, ok_bnd]; simp only [ok_lift]
theorem oki_zip {st : Bool} {a b : T} : Ok (evi Φ Γ st (.zip a b) ρ) t Q ↔ Ok (ev Φ Γ a ρ) t fun x t1 => Ok (ev Φ Γ b ρ) t1 fun y t2 => ∃ ds, zipR (seen st x) (seen st y) = some ds ∧ Q ds t2 := by
  have e : evi Φ Γ st (.zip a b) ρ = bnd (ev Φ Γ a ρ) fun x => bnd (ev Φ Γ b ρ) fun y => lift (zipR (seen st x) (seen st y)) := by
    rw [evi]
    rfl
  rw [e, ok_bnd]; simp only [ok_bnd, ok_lift]
end
section
variable {Q : Out → Tape → Prop}
theorem oks_set {i : Nat} {e : T} : Ok (exS Φ Γ (.set i e) ρ) t Q ↔ Ok (ev Φ Γ e ρ) t fun r t1 => ∃ d, r.fix = some d ∧ Q (none, ρ.set i (some (.val d))) t1 := by
  rw [exS, ok_bnd]
  simp only [ok_lift, Option.map_eq_some_iff]
  unfold Ok
  constructor
  · rintro ⟨x, t1, e, r, ⟨c, h, rfl⟩, q⟩
    exact ⟨x, t1, e, c, h, q⟩
  · rintro ⟨x, t1, e, c, h, q⟩
    exact ⟨x, t1, e, _, ⟨c, h, rfl⟩, q⟩
theorem oks_setO {i : Nat} {e : T} : Ok (exS Φ Γ (.setO i e) ρ) t Q ↔ Ok (ev Φ Γ e ρ) t fun r t1 => ∃ xs, r = .own xs ∧ Q (none, ρ.set i (some (.own xs))) t1 := by
  rw [exS, ok_bnd]
  simp only [ok_lift]
  unfold Ok
  constructor
  · rintro ⟨x, t1, e, r, h, q⟩
    cases x with
    | own xs => cases h; exact ⟨_, t1, e, xs, rfl, q⟩
    | val d => cases h
    | bor d => cases h
  · rintro ⟨x, t1, e, xs, rfl, q⟩
    exact ⟨_, t1, e, _, rfl, q⟩
theorem oks_par {is : List (Nat × Bool)} {es : Ts} : Ok (exS Φ Γ (.par is es) ρ) t Q ↔ Ok (evs Φ Γ es ρ) t fun rs t1 => ∃ ρ', putRs is rs ρ = some ρ' ∧ Q (none, ρ') t1 := by
  rw [exS, ok_bnd]
  simp only [ok_lift, Option.map_eq_some_iff]
  unfold Ok
  constructor
  · rintro ⟨x, t1, e, r, ⟨c, h, rfl⟩, q⟩
    exact ⟨x, t1, e, c, h, q⟩
  · rintro ⟨x, t1, e, c, h, q⟩
    exact ⟨x, t1, e, _, ⟨c, h, rfl⟩, q⟩
theorem oks_unp {is : List Nat} {e : T} : Ok (exS Φ Γ (.unp is e) ρ) t Q ↔ Ok (ev Φ Γ e ρ) t fun r t1 => ∃ d, r.fix = some d ∧ ∃ ρ', bindT (.tup is) d ρ = some ρ' ∧ Q (none, ρ') t1 := by
  rw [exS, ok_bnd]
  simp only [ok_lift, Option.bind_eq_some_iff, Option.map_eq_some_iff]
  unfold Ok
  constructor
  · rintro ⟨x, t1, e, r, ⟨d, hd, c, h, rfl⟩, q⟩
    exact ⟨x, t1, e, d, hd, c, h, q⟩
  · rintro ⟨x, t1, e, d, hd, c, h, q⟩
    exact ⟨x, t1, e, _, ⟨d, hd, c, h, rfl⟩, q⟩
theorem oks_app {i : Nat} {e : T} : Ok (exS Φ Γ (.app i e) ρ) t Q ↔ ∃ xs, ownAt ρ i = some xs ∧ Ok (ev Φ Γ e ρ) t fun r t1 => ∃ d, r.fix = some d ∧ xs.length < big ∧ Q (none, ρ.set i (some (.own (xs ++ [d])))) t1 := by
  rw [exS, ok_bnd, ok_lift]
  simp only [ok_bnd, ok_lift, Option.bind_eq_some_iff, Option.ite_none_right_eq_some, Option.some.injEq]
  unfold Ok
  constructor
  · rintro ⟨xs, h, x, t1, e, r, ⟨d, hd, hz, rfl⟩, q⟩
    exact ⟨xs, h, x, t1, e, d, hd, hz, q⟩
  · rintro ⟨xs, h, x, t1, e, d, hd, hz, q⟩
    exact ⟨xs, h, x, t1, e, _, ⟨d, hd, hz, rfl⟩, q⟩
theorem oks_seti {i : Nat} {ix e : T} : Ok (exS Φ Γ (.seti i ix e) ρ) t Q ↔ Ok (ev Φ Γ e ρ) t fun r t1 => ∃ xs, ownAt ρ i = some xs ∧ Ok (ev Φ Γ ix ρ) t1 fun k t2 => ∃ d, r.fix = some d ∧ ∃ j, intOf k = some j ∧ ∃ ys, setIx xs j d = some ys ∧ Q (none, ρ.set i (some (.own ys))) t2 := by
  rw [exS, ok_bnd]
  simp only [ok_bnd, ok_lift, Option.bind_eq_some_iff, Option.map_eq_some_iff]
  unfold Ok
  constructor
  · rintro ⟨x, t1, e, xs, h, y, t2, e2, r, ⟨d, hd, j, hj, ys, hy, rfl⟩, q⟩
    exact ⟨x, t1, e, xs, h, y, t2, e2, d, hd, j, hj, ys, hy, q⟩
  · rintro ⟨x, t1, e, xs, h, y, t2, e2, d, hd, j, hj, ys, hy, q⟩
    exact ⟨x, t1, e, xs, h, y, t2, e2, _, ⟨d, hd, j, hj, ys, hy, rfl⟩, q⟩
theorem oks_popat {i : Nat} {ix : T} : Ok (exS Φ Γ (.popat i ix) ρ) t Q ↔ ∃ xs, ownAt ρ i = some xs ∧ Ok (ev Φ Γ ix ρ) t fun k t2 => ∃ j, intOf k = some j ∧ (0 ≤ j ∧ j < xs.length) ∧ Q (none, ρ.set i (some (.own (xs.eraseIdx j.toNat)))) t2 := by
  rw [exS, ok_bnd, ok_lift]
  simp only [ok_bnd, ok_lift, Option.bind_eq_some_iff, Option.ite_none_right_eq_some, Option.some.injEq]
  unfold Ok
  constructor
  · rintro ⟨xs, h, x, t1, e, r, ⟨d, hd, hz, rfl⟩, q⟩
    exact ⟨xs, h, x, t1, e, d, hd, hz, q⟩
  · rintro ⟨xs, h, x, t1, e, d, hd, hz, q⟩
    exact ⟨xs, h, x, t1, e, _, ⟨d, hd, hz, rfl⟩, q⟩
theorem oks_ins {i : Nat} {ix e : T} : Ok (exS Φ Γ (.ins i ix e) ρ) t Q ↔ ∃ xs, ownAt ρ i = some xs ∧ Ok (ev Φ Γ ix ρ) t fun k t1 => Ok (ev Φ Γ e ρ) t1 fun r t2 => ∃ j, intOf k = some j ∧ ∃ d, r.fix = some d ∧ ∃ ys, insIx xs j d = some ys ∧ Q (none, ρ.set i (some (.own ys))) t2 := by
  rw [exS, ok_bnd, ok_lift]
  simp only [ok_bnd, ok_lift, Option.bind_eq_some_iff, Option.map_eq_some_iff]
  unfold Ok
  constructor
  · rintro ⟨xs, h, y, t2, e2, x, t1, e, r, ⟨j, hj, d, hd, ys, hy, rfl⟩, q⟩
    exact ⟨xs, h, y, t2, e2, x, t1, e, j, hj, d, hd, ys, hy, q⟩
  · rintro ⟨xs, h, y, t2, e2, x, t1, e, j, hj, d, hd, ys, hy, q⟩
    exact ⟨xs, h, y, t2, e2, x, t1, e, _, ⟨j, hj, d, hd, ys, hy, rfl⟩, q⟩
theorem oks_popv {i j : Nat} : Ok (exS Φ Γ (.popv j i) ρ) t Q ↔ ∃ xs, ownAt ρ i = some xs ∧ ∃ d, xs.getLast? = some d ∧ Q (none, (ρ.set i (some (.own xs.dropLast))).set j (some (.val d))) t := by
  rw [exS, ok_bnd, ok_lift]
  simp only [ok_lift, Option.map_eq_some_iff]
  constructor
  · rintro ⟨xs, h, r, ⟨d, hd, rfl⟩, q⟩
    exact ⟨xs, h, d, hd, q⟩
  · rintro ⟨xs, h, d, hd, q⟩
    exact ⟨xs, h, _, ⟨d, hd, rfl⟩, q⟩
theorem oks_frz {i : Nat} : Ok (exS Φ Γ (.frz i) ρ) t Q ↔ ∃ xs, ownAt ρ i = some xs ∧ Q (none, ρ.set i (some (.val (.list xs)))) t := by
  rw [exS, ok_lift]
  simp only [Option.map_eq_some_iff]
  constructor
  · rintro ⟨r, ⟨d, hd, rfl⟩, q⟩
    exact ⟨d, hd, q⟩
  · rintro ⟨d, hd, q⟩
    exact ⟨_, ⟨d, hd, rfl⟩, q⟩
theorem oks_ite {c : T} {a b : Ss} : Ok (exS Φ Γ (.ite c a b) ρ) t Q ↔ Ok (ev Φ Γ c ρ) t fun x t1 => ∃ k, isTrueD x = some k ∧ (k = true → Ok (exSs Φ Γ a ρ) t1 Q) ∧ (k = false → Ok (exSs Φ Γ b ρ) t1 Q) := by
  rw [exS, ok_bnd]
  simp only [ok_bnd, ok_lift, ok_if, ok_ret, Bool.not_eq_true]
theorem oks_ret {e : T} : Ok (exS Φ Γ (.ret e) ρ) t Q ↔ Ok (ev Φ Γ e ρ) t fun r t1 => Q (some (retR r), ρ) t1 := by
  rw [exS, ok_bnd]; simp only [ok_ret]
theorem oks_pass : Ok (exS Φ Γ .pass ρ) t Q ↔ Q (none, ρ) t := by rw [exS, ok_ret]
theorem oks_tini {i : Nat} {e : T} : Ok (exS Φ Γ (.tini i e) ρ) t Q ↔ Ok (ev Φ Γ e ρ) t fun r _ => ∃ x xs, r = .own (x :: xs) ∧ i < ρ.length ∧ Q (none, ρ) (x :: xs) := by
  rw [exS, ok_bnd]
  have key : ∀ (r : R) (t1 : Tape), Ok (fun _ => match r with | .own (x :: xs) => if i < ρ.length then some (((none, ρ) : Out), x :: xs) else none | _ => none) t1 Q ↔ ∃ x xs, r = .own (x :: xs) ∧ i < ρ.length ∧ Q (none, ρ) (x :: xs) := fun r t1 => by
    unfold Ok
    constructor
    · rintro ⟨a, t', h, q⟩
      split at h
      · rename_i x xs
        split at h
        · rename_i hi
          cases h
          exact ⟨x, xs, rfl, hi, q⟩
        · cases h
      · cases h
    · rintro ⟨x, xs, rfl, hi, q⟩
      exact ⟨_, _, if_pos hi, q⟩
  exact ok_congr key
theorem oks_tset {ix e : T} : Ok (exS Φ Γ (.tset ix e) ρ) t Q ↔ Ok (ev Φ Γ e ρ) t fun r t1 => t1 ≠ [] ∧ Ok (ev Φ Γ ix ρ) t1 fun k t2 => ∃ d, r.fix = some d ∧ ∃ j, intOf k = some j ∧ ∃ t3, setIx t2 j d = some t3 ∧ Q (none, ρ) t3 := by
  rw [exS, ok_bnd]
  have key : ∀ (r k : R) (t2 : Tape), Ok (fun t => match r.fix, intOf k with
      | some d, some j => match setIx t j d with
        | some t' => some (((none, ρ) : Out), t')
        | none => none
      | _, _ => none) t2 Q ↔ ∃ d, r.fix = some d ∧ ∃ j, intOf k = some j ∧ ∃ t3, setIx t2 j d = some t3 ∧ Q (none, ρ) t3 := fun r k t2 => by
    unfold Ok
    constructor
    · rintro ⟨a, t', h, q⟩
      split at h
      · rename_i d j h1 h2
        dsimp only at h
        split at h
        · rename_i t3 h3
          cases h
          exact ⟨d, h1, j, h2, _, h3, q⟩
        · cases h
      · cases h
    · rintro ⟨d, h1, j, h2, t3, h3, q⟩
      exact ⟨_, _, by rw [h1, h2]; simp only [h3], q⟩
  refine ok_congr fun r t1 => ?_
  rw [ok_needT, ok_bnd]
  exact and_congr Iff.rfl (ok_congr fun k t2 => key r k t2)
theorem oks_aug {i : Nat} {o : BOp} {e : T} : Ok (exS Φ Γ (.aug i o e) ρ) t Q ↔ ∃ x, slot ρ i = some x ∧ Ok (ev Φ Γ e ρ) t fun y t1 => ∃ z, augR o (intOf x) (intOf y) = some z ∧ Q (none, ρ.set i (some (.val (.int z)))) t1 := by
  have e : exS Φ Γ (.aug i o e) ρ = bnd (lift (slot ρ i)) fun x => bnd (ev Φ Γ e ρ) fun y => lift ((augR o (intOf x) (intOf y)).map fun z => (none, ρ.set i (some (.val (.int z))))) := by
    rw [exS]
    congr
    funext x
    congr
    funext y
    cases o <;> cases intOf x <;> cases intOf y <;> rfl
  rw [e, ok_bnd, ok_lift]
  simp only [ok_bnd, ok_lift, Option.map_eq_some_iff]
  unfold Ok
  constructor
  · rintro ⟨x, h, y, t2, e2, r, ⟨z, hz, rfl⟩, q⟩
    exact ⟨x, h, y, t2, e2, z, hz, q⟩
  · rintro ⟨x, h, y, t2, e2, z, hz, q⟩
    exact ⟨x, h, y, t2, e2, _, ⟨z, hz, rfl⟩, q⟩
def turnB (Φ : Call) (Γ : Str → Option D) (tg : Tgt) (b : Ss) (d : D) (ρ : Env) : M Out := bnd (lift (bindT tg d ρ)) fun ρ' => exSs Φ Γ b ρ'
theorem oks_for {tg : Tgt} {it : I} {b : Ss} : Ok (exS Φ Γ (.for_ tg it b) ρ) t Q ↔ Ok (evi Φ Γ true it ρ) t fun ds t1 => Ok (forL (turnB Φ Γ tg b) ds ρ) t1 Q := by
  rw [exS, ok_bnd]; rfl
theorem ok_turnB {tg : Tgt} {b : Ss} {d : D} : Ok (turnB Φ Γ tg b d ρ) t Q ↔ ∃ ρ1, bindT tg d ρ = some ρ1 ∧ Ok (exSs Φ Γ b ρ1) t Q := by
  unfold turnB
  rw [ok_bnd, ok_lift]
theorem okss_nil : Ok (exSs Φ Γ .nil ρ) t Q ↔ Q (none, ρ) t := by rw [exSs, ok_ret]
theorem okss_cons {s : S} {ss : Ss} : Ok (exSs Φ Γ (.cons s ss) ρ) t Q ↔ Ok (exS Φ Γ s ρ) t fun o t1 => match o with
    | (none, ρ') => Ok (exSs Φ Γ ss ρ') t1 Q
    | (some r, ρ') => Q (some r, ρ') t1 := by
  rw [exSs, ok_bnd]
  have : ∀ (o : Out) (t1 : Tape), Ok (match o with
    | (none, ρ') => exSs Φ Γ ss ρ'
    | (some r, ρ') => ret (some r, ρ')) t1 Q ↔ (match o with
    | (none, ρ') => Ok (exSs Φ Γ ss ρ') t1 Q
    | (some r, ρ') => Q (some r, ρ') t1) := fun o t1 => by
    obtain ⟨o, ρ'⟩ := o
    cases o with
    | none => exact Iff.rfl
    | some r => exact ok_ret
  exact ok_congr this
/-- a for's turns by an invariant; none returns -/
theorem for_ok {f : D → Env → M Out} (I : Nat → Env → Tape → Prop) {ds : List D} (hs : ∀ i d ρ t, ds[i]? = some d → I i ρ t → Ok (f d ρ) t fun o t' => o.1 = none ∧ I (i + 1) o.2 t') (h0 : I 0 ρ t) (hd : ∀ ρ' t', I ds.length ρ' t' → Q (none, ρ') t') : Ok (forL f ds ρ) t Q := by
  have key : ∀ (n i : Nat) (ρ : Env) (t : Tape), ds.length - i = n → i ≤ ds.length → I i ρ t → Ok (forL f (ds.drop i) ρ) t Q := by
    intro n
    induction n with
    | zero =>
      intro i ρ t hn hi h
      have : i = ds.length := by omega
      subst this
      rw [List.drop_length, forL, ok_ret]
      exact hd ρ t h
    | succ n ih =>
      intro i ρ t hn hi h
      have hlt : i < ds.length := by omega
      rw [List.drop_eq_getElem_cons hlt, forL, ok_bnd]
      refine (hs i _ ρ t (List.getElem?_eq_getElem hlt) h).mono ?_
      rintro ⟨o, ρ'⟩ t' ⟨rfl, h'⟩
      exact ih (i + 1) ρ' t' (by omega) hlt h'
  have := key ds.length 0 ρ t rfl (Nat.zero_le _) h0
  rwa [List.drop_zero] at this
end
section
variable {f : D → M (List D)} {Q : List D → Tape → Prop}
/-- a comprehension's turns -/
theorem loop_okP (I : Nat → List D → Tape → Prop) {ds : List D} (hs : ∀ i d acc t, ds[i]? = some d → I i acc t → Ok (f d) t fun r t' => I (i + 1) (acc ++ r) t') (h0 : I 0 [] t) (hd : ∀ xs t', I ds.length xs t' → Q xs t') : Ok (loopL f ds) t Q := by
  have key : ∀ (n i : Nat) (acc : List D) (t : Tape), ds.length - i = n → i ≤ ds.length → I i acc t → Ok (loopL f (ds.drop i)) t fun r t' => Q (acc ++ r) t' := by
    intro n
    induction n with
    | zero =>
      intro i acc t hn hi h
      have : i = ds.length := by omega
      subst this
      rw [List.drop_length, loopL, ok_ret, List.append_nil]
      exact hd _ t h
    | succ n ih =>
      intro i acc t hn hi h
      have hlt : i < ds.length := by omega
      rw [List.drop_eq_getElem_cons hlt, loopL, ok_bnd]
      refine (hs i _ acc t (List.getElem?_eq_getElem hlt) h).mono ?_
      intro r t' h'
      rw [ok_bnd]
      refine (ih (i + 1) (acc ++ r) t' (by omega) hlt h').mono ?_
      intro r2 t2 q
      rw [ok_ret, ← List.append_assoc]
      exact q
  have := key ds.length 0 [] t rfl (Nat.zero_le _) h0
  rw [List.drop_zero] at this
  exact this.mono fun a t' q => by simpa using q
/-- .. that leave the tape alone -/
theorem loop_pure {g : D → List D} {ds : List D} (h : ∀ d ∈ ds, Ok (f d) t fun r t' => r = g d ∧ t' = t) (hd : Q (ds.map g).flatten t) : Ok (loopL f ds) t Q := by
  have key : ∀ ds : List D, (∀ d ∈ ds, Ok (f d) t fun r t' => r = g d ∧ t' = t) → Ok (loopL f ds) t fun r t' => r = (ds.map g).flatten ∧ t' = t := by
    intro ds
    induction ds with
    | nil => intro _; rw [loopL, ok_ret]; exact ⟨rfl, rfl⟩
    | cons d ds ih =>
      intro h
      rw [loopL, ok_bnd]
      refine (h d List.mem_cons_self).mono ?_
      rintro r t' ⟨rfl, rfl⟩
      rw [ok_bnd]
      refine (ih fun d hd => h d (List.mem_cons_of_mem _ hd)).mono ?_
      rintro r t2 ⟨rfl, rfl⟩
      rw [ok_ret]
      exact ⟨rfl, rfl⟩
  exact (key ds h).mono fun r t' ⟨e1, e2⟩ => by rw [e1, e2]; exact hd
end
/-- a def -/
theorem ok_def {P : Str → Option Def} {n : Nat} {f : Str} {d : Def} {ds : List D} {Q : R → Tape → Prop} (h : P f = some d) (hl : ds.length + (if d.tape then 1 else 0) = d.np ∧ d.np ≤ d.ns) (k : Ok (exSs (callD P Γ n) Γ d.body (entry d ds)) t fun o t' => Q (outR o) t') : Ok (callD P Γ (n + 1) f ds) t Q := by
  have e : callD P Γ (n + 1) f ds = bnd (exSs (callD P Γ n) Γ d.body (entry d ds)) fun o => ret (outR o) := by
    conv => lhs; unfold callD
    rw [h]
    exact if_pos hl
  rw [e, ok_bnd]
  exact k.mono fun o t' q => ok_ret.mpr q
end
theorem bop_mod {i j : Int} (h : 0 < j) : bop .mod (.int i) (.int j) = some (.val (.int (i % j))) := if_pos h
theorem bop_fdiv {i j : Int} (h : 0 < j) (h2 : j.natAbs < 2 ^ 400) : bop .fdiv (.int i) (.int j) = some (.val (.int (i / j))) := if_pos ⟨h, h2⟩
theorem bop_mul {i j : Int} (h : mulOk i j = true) : bop .mul (.int i) (.int j) = some (.val (.int (i * j))) := if_pos h
theorem mul_small {i j : Int} (h : -(2 ^ 64) < i ∧ i < 2 ^ 64) : mulOk i j = true := by
  unfold mulOk
  rw [decide_eq_true h]
  rfl
theorem mul_small2 {i j : Int} (h : -(2 ^ 64) < j ∧ j < 2 ^ 64) : mulOk i j = true := by
  unfold mulOk
  rw [decide_eq_true h, Bool.or_true, Bool.true_or]
theorem sub_ints {xs : List Int} {i : Int} (h0 : 0 ≤ i) (h1 : i < xs.length) : ∃ x, subD (.list (xs.map PyData.int)) (.int i) = some (.int x) := by
  have hl : i.toNat < xs.length := by omega
  refine ⟨xs[i.toNat], ?_⟩
  show L2.atI (xs.map PyData.int) i = _
  unfold L2.atI L2.ixN
  rw [if_pos h0, if_pos (by simpa using h1)]
  simp [hl]
end Ev

set_option Elab.async false
set_option linter.all false
set_option maxRecDepth 100000
set_option maxHeartbeats 1000000
/-! EvW: what must hold ahead of a run, by the text of what is run. -/
namespace Ev
open PySem
section
variable (Φ : Call) (Γ : Str → Option D)
mutual
@[reducible] def wpE : T → Env → Tape → (R → Tape → Prop) → Prop
  | .var i, ρ, t, Q => ∃ r, slot ρ i = some r ∧ Q r t
  | .cst d, ρ, t, Q => Q (.val d) t
  | .glob x, ρ, t, Q => ∃ r, (Γ x).map R.val = some r ∧ Q r t
  | .tup es, ρ, t, Q => wpA es ρ t fun rs t1 => ∃ r, ((fixes rs).bind fun ds => if ds.length ≤ big then some (R.val (.tuple ds)) else none) = some r ∧ Q r t1
  | .lst es, ρ, t, Q => wpA es ρ t fun rs t1 => ∃ r, ((fixes rs).bind fun ds => if ds.length ≤ big then some (R.own ds) else none) = some r ∧ Q r t1
  | .bin o a b, ρ, t, Q => wpE a ρ t fun x t1 => wpE b ρ t1 fun y t2 => ∃ r, bop o x.look y.look = some r ∧ Q r t2
  | .neg a, ρ, t, Q => wpE a ρ t fun x t1 => ∃ r, negR x = some r ∧ Q r t1
  | .not a, ρ, t, Q => wpE a ρ t fun x t1 => ∃ b, isTrueD x = some b ∧ Q (.val (.bool (!b))) t1
  | .and a b, ρ, t, Q => wpE a ρ t fun x t1 => ∃ c, isTrueD x = some c ∧ (c = true → wpE b ρ t1 Q) ∧ (c = false → Q (.val (.bool false)) t1)
  | .or a b, ρ, t, Q => wpE a ρ t fun x t1 => ∃ c, isTrueD x = some c ∧ (c = true → Q (.val (.bool true)) t1) ∧ (c = false → wpE b ρ t1 Q)
  | .cmp o a b, ρ, t, Q => wpE a ρ t fun x t1 => wpE b ρ t1 fun y t2 => ∃ c, cop o x.look y.look = some c ∧ Q (.val (.bool c)) t2
  | .cmp2 o o' a b c, ρ, t, Q => wpE a ρ t fun x t1 => wpE b ρ t1 fun y t2 => ∃ k, cop o x.look y.look = some k ∧ (k = true → wpE c ρ t2 fun z t3 => ∃ c, cop o' y.look z.look = some c ∧ Q (.val (.bool c)) t3) ∧ (k = false → Q (.val (.bool false)) t2)
  | .ite c a b, ρ, t, Q => wpE c ρ t fun x t1 => ∃ k, isTrueD x = some k ∧ (k = true → wpE a ρ t1 Q) ∧ (k = false → wpE b ρ t1 Q)
  | .sub a i, ρ, t, Q => wpE a ρ t fun x t1 => wpE i ρ t1 fun y t2 => ∃ d, subD x.look y.look = some d ∧ Q (.val d) t2
  | .slf a i, ρ, t, Q => wpE a ρ t fun x t1 => wpE i ρ t1 fun y t2 => ∃ r, slfD x.look y.look = some r ∧ Q r t2
  | .slt a i, ρ, t, Q => wpE a ρ t fun x t1 => wpE i ρ t1 fun y t2 => ∃ r, sltD x.look y.look = some r ∧ Q r t2
  | .rev a, ρ, t, Q => wpE a ρ t fun x t1 => ∃ r, revD x.look = some r ∧ Q r t1
  | .lrng a, ρ, t, Q => wpE a ρ t fun x t1 => ∃ r, lrngR x = some r ∧ Q r t1
  | .tget i, ρ, t, Q => t ≠ [] ∧ wpE i ρ t fun y t1 => ∃ d, subD (.list t1) y.look = some d ∧ Q (.val d) t1
  | .call f es, ρ, t, Q => wpA es ρ t fun rs t1 => Ok (Φ f (rs.map R.look)) [] fun r _ => ∃ r', afterCall rs r = some r' ∧ Q r' t1
  | .callT f es, ρ, t, Q => t ≠ [] ∧ wpA es ρ t fun rs t1 => t1 ≠ [] ∧ Ok (Φ f (rs.map R.look)) t1 fun r t2 => ∃ r', (if rs.any isBor then none else some r) = some r' ∧ Q r' t2
  | .bi b es, ρ, t, Q => wpA es ρ t fun rs t1 => ∃ r, biD b (rs.map R.look) = some r ∧ Q r t1
  | .isi a tys, ρ, t, Q => wpE a ρ t fun x t1 => ∃ c, isiD tys x.look = some c ∧ Q (.val (.bool c)) t1
  | .comp tg it c g, ρ, t, Q => wpI false it ρ t fun ds t1 => Ok (loopL (turnF Φ Γ tg c g ρ) ds) t1 fun xs t2 => ∃ r, fitG g xs = some r ∧ Q r t2
  | e, ρ, t, Q => Ok (ev Φ Γ e ρ) t Q
@[reducible] def wpA : Ts → Env → Tape → (List R → Tape → Prop) → Prop
  | .nil, ρ, t, Q => Q [] t
  | .cons a ts, ρ, t, Q => wpE a ρ t fun x t1 => wpA ts ρ t1 fun xs t2 => Q (x :: xs) t2
  | .star a ts, ρ, t, Q => wpE a ρ t fun x t1 => ∃ ds, items x.look = some ds ∧ wpA ts ρ t1 fun xs t2 => Q (ds.map R.val ++ xs) t2
@[reducible] def wpG : Ge → Env → Tape → (List D → Tape → Prop) → Prop
  | .elt e, ρ, t, Q => wpE e ρ t fun r t1 => ∃ y, r.fix = some y ∧ Q [y] t1
  | .for_ tg it c g, ρ, t, Q => wpI true it ρ t fun ds t1 => Ok (loopL (turnF Φ Γ tg c g ρ) ds) t1 Q
@[reducible] def wpI (st : Bool) : I → Env → Tape → (List D → Tape → Prop) → Prop
  | .ex e, ρ, t, Q => wpE e ρ t fun x t1 => ∃ ds, (seen st x).bind iterD = some ds ∧ Q ds t1
  | .rng e, ρ, t, Q => wpE e ρ t fun x t1 => ∃ ds, rngR x = some ds ∧ Q ds t1
  | .revr e, ρ, t, Q => wpE e ρ t fun x t1 => ∃ ds, revrR x = some ds ∧ Q ds t1
  | .zip a b, ρ, t, Q => wpE a ρ t fun x t1 => wpE b ρ t1 fun y t2 => ∃ ds, zipR (seen st x) (seen st y) = some ds ∧ Q ds t2
  | i, ρ, t, Q => Ok (evi Φ Γ st i ρ) t Q
end
mutual
@[reducible] def wpS : S → Env → Tape → (Out → Tape → Prop) → Prop
  | .set i e, ρ, t, Q => wpE Φ Γ e ρ t fun r t1 => ∃ d, r.fix = some d ∧ Q (none, ρ.set i (some (.val d))) t1
  | .setO i e, ρ, t, Q => wpE Φ Γ e ρ t fun r t1 => ∃ xs, r = .own xs ∧ Q (none, ρ.set i (some (.own xs))) t1
  | .par is es, ρ, t, Q => wpA Φ Γ es ρ t fun rs t1 => ∃ ρ', putRs is rs ρ = some ρ' ∧ Q (none, ρ') t1
  | .unp is e, ρ, t, Q => wpE Φ Γ e ρ t fun r t1 => ∃ d, r.fix = some d ∧ ∃ ρ', bindT (.tup is) d ρ = some ρ' ∧ Q (none, ρ') t1
  | .app i e, ρ, t, Q => ∃ xs, ownAt ρ i = some xs ∧ wpE Φ Γ e ρ t fun r t1 => ∃ d, r.fix = some d ∧ xs.length < big ∧ Q (none, ρ.set i (some (.own (xs ++ [d])))) t1
  | .seti i ix e, ρ, t, Q => wpE Φ Γ e ρ t fun r t1 => ∃ xs, ownAt ρ i = some xs ∧ wpE Φ Γ ix ρ t1 fun k t2 => ∃ d, r.fix = some d ∧ ∃ j, intOf k = some j ∧ ∃ ys, setIx xs j d = some ys ∧ Q (none, ρ.set i (some (.own ys))) t2
  | .popat i ix, ρ, t, Q => ∃ xs, ownAt ρ i = some xs ∧ wpE Φ Γ ix ρ t fun k t2 => ∃ j, intOf k = some j ∧ (0 ≤ j ∧ j < xs.length) ∧ Q (none, ρ.set i (some (.own (xs.eraseIdx j.toNat)))) t2
  | .ins i ix e, ρ, t, Q => ∃ xs, ownAt ρ i = some xs ∧ wpE Φ Γ ix ρ t fun k t1 => wpE Φ Γ e ρ t1 fun r t2 => ∃ j, intOf k = some j ∧ ∃ d, r.fix = some d ∧ ∃ ys, insIx xs j d = some ys ∧ Q (none, ρ.set i (some (.own ys))) t2
  | .popv j i, ρ, t, Q => ∃ xs, ownAt ρ i = some xs ∧ ∃ d, xs.getLast? = some d ∧ Q (none, (ρ.set i (some (.own xs.dropLast))).set j (some (.val d))) t
  | .frz i, ρ, t, Q => ∃ xs, ownAt ρ i = some xs ∧ Q (none, ρ.set i (some (.val (.list xs)))) t
  | .ite c a b, ρ, t, Q => wpE Φ Γ c ρ t fun x t1 => ∃ k, isTrueD x = some k ∧ (k = true → wpSs a ρ t1 Q) ∧ (k = false → wpSs b ρ t1 Q)
  | .ret e, ρ, t, Q => wpE Φ Γ e ρ t fun r t1 => Q (some (retR r), ρ) t1
  | .pass, ρ, t, Q => Q (none, ρ) t
  | .tini i e, ρ, t, Q => wpE Φ Γ e ρ t fun r _ => ∃ x xs, r = .own (x :: xs) ∧ i < ρ.length ∧ Q (none, ρ) (x :: xs)
  | .tset ix e, ρ, t, Q => wpE Φ Γ e ρ t fun r t1 => t1 ≠ [] ∧ wpE Φ Γ ix ρ t1 fun k t2 => ∃ d, r.fix = some d ∧ ∃ j, intOf k = some j ∧ ∃ t3, setIx t2 j d = some t3 ∧ Q (none, ρ) t3
  | .aug i o e, ρ, t, Q => ∃ x, slot ρ i = some x ∧ wpE Φ Γ e ρ t fun y t1 => ∃ z, augR o (intOf x) (intOf y) = some z ∧ Q (none, ρ.set i (some (.val (.int z)))) t1
  | .for_ tg it b, ρ, t, Q => wpI Φ Γ true it ρ t fun ds t1 => Ok (forL (turnB Φ Γ tg b) ds ρ) t1 Q
  | s, ρ, t, Q => Ok (exS Φ Γ s ρ) t Q
@[reducible] def wpSs : Ss → Env → Tape → (Out → Tape → Prop) → Prop
  | .nil, ρ, t, Q => Q (none, ρ) t
  | .cons s ss, ρ, t, Q => wpS s ρ t fun o t1 => match o with
    | (none, ρ') => wpSs ss ρ' t1 Q
    | (some r, ρ') => Q (some r, ρ') t1
end
end
section
variable {Φ : Call} {Γ : Str → Option D}
mutual
theorem wpE_ok : ∀ (e : T) {ρ : Env} {t : Tape} {Q : R → Tape → Prop}, wpE Φ Γ e ρ t Q → Ok (ev Φ Γ e ρ) t Q
  | .var i, _, _, _, h => ok_var.mpr h
  | .cst d, _, _, _, h => ok_cst.mpr h
  | .glob x, _, _, _, h => ok_glob.mpr h
  | .tup es, _, _, _, h => ok_tup.mpr (wpA_ok es h)
  | .lst es, _, _, _, h => ok_lst.mpr (wpA_ok es h)
  | .bin o a b, _, _, _, h => ok_bin.mpr ((wpE_ok a h).mono fun _ _ h => wpE_ok b h)
  | .neg a, _, _, _, h => ok_neg.mpr (wpE_ok a h)
  | .not a, _, _, _, h => ok_not.mpr (wpE_ok a h)
  | .and a b, _, _, _, h => ok_and.mpr ((wpE_ok a h).mono fun _ _ ⟨c, h1, h2, h3⟩ => ⟨c, h1, fun z => wpE_ok b (h2 z), h3⟩)
  | .or a b, _, _, _, h => ok_or.mpr ((wpE_ok a h).mono fun _ _ ⟨c, h1, h2, h3⟩ => ⟨c, h1, h2, fun z => wpE_ok b (h3 z)⟩)
  | .cmp o a b, _, _, _, h => ok_cmp.mpr ((wpE_ok a h).mono fun _ _ h => wpE_ok b h)
  | .cmp2 o o' a b c, _, _, _, h => ok_cmp2.mpr ((wpE_ok a h).mono fun _ _ h => (wpE_ok b h).mono fun _ _ ⟨k, h1, h2, h3⟩ => ⟨k, h1, fun z => wpE_ok c (h2 z), h3⟩)
  | .ite c a b, _, _, _, h => ok_ite.mpr ((wpE_ok c h).mono fun _ _ ⟨k, h1, h2, h3⟩ => ⟨k, h1, fun z => wpE_ok a (h2 z), fun z => wpE_ok b (h3 z)⟩)
  | .sub a i, _, _, _, h => ok_sub.mpr ((wpE_ok a h).mono fun _ _ h => wpE_ok i h)
  | .slf a i, _, _, _, h => ok_slf.mpr ((wpE_ok a h).mono fun _ _ h => wpE_ok i h)
  | .slt a i, _, _, _, h => ok_slt.mpr ((wpE_ok a h).mono fun _ _ h => wpE_ok i h)
  | .rev a, _, _, _, h => ok_rev.mpr (wpE_ok a h)
  | .lrng a, _, _, _, h => ok_lrng.mpr (wpE_ok a h)
  | .tget i, _, _, _, h => ok_tget.mpr ⟨h.1, wpE_ok i h.2⟩
  | .call f es, _, _, _, h => ok_call.mpr (wpA_ok es h)
  | .callT f es, _, _, _, h => ok_callT.mpr ⟨h.1, wpA_ok es h.2⟩
  | .bi b es, _, _, _, h => ok_bi.mpr (wpA_ok es h)
  | .isi a tys, _, _, _, h => ok_isi.mpr (wpE_ok a h)
  | .comp tg it c g, _, _, _, h => ok_comp.mpr (wpI_ok false it h)
  | .dct _ _, _, _, _, h => h
  | .orv _ _, _, _, _, h => h
  | .stp _ _, _, _, _, h => h
  | .srt _ _, _, _, _, h => h
  | .best _ _ _, _, _, _, h => h
theorem wpA_ok : ∀ (e : Ts) {ρ : Env} {t : Tape} {Q : List R → Tape → Prop}, wpA Φ Γ e ρ t Q → Ok (evs Φ Γ e ρ) t Q
  | .nil, _, _, _, h => oks_nil.mpr h
  | .cons a ts, _, _, _, h => oks_cons.mpr ((wpE_ok a h).mono fun _ _ h => wpA_ok ts h)
  | .star a ts, _, _, _, h => oks_star.mpr ((wpE_ok a h).mono fun _ _ ⟨ds, h1, h2⟩ => ⟨ds, h1, wpA_ok ts h2⟩)
theorem wpG_ok : ∀ (e : Ge) {ρ : Env} {t : Tape} {Q : List D → Tape → Prop}, wpG Φ Γ e ρ t Q → Ok (evg Φ Γ e ρ) t Q
  | .elt e, _, _, _, h => okg_elt.mpr (wpE_ok e h)
  | .for_ tg it c g, _, _, _, h => okg_for.mpr (wpI_ok true it h)
theorem wpI_ok (st : Bool) : ∀ (e : I) {ρ : Env} {t : Tape} {Q : List D → Tape → Prop}, wpI Φ Γ st e ρ t Q → Ok (evi Φ Γ st e ρ) t Q
  | .ex e, _, _, _, h => oki_ex.mpr (wpE_ok e h)
  | .rng e, _, _, _, h => oki_rng.mpr (wpE_ok e h)
  | .revr e, _, _, _, h => oki_revr.mpr (wpE_ok e h)
  | .zip a b, _, _, _, h => oki_zip.mpr ((wpE_ok a h).mono fun _ _ h => wpE_ok b h)
  | .enum _, _, _, _, h => h
end
theorem wp_turn {tg : Tgt} {c : T} {g : Ge} {d : D} {ρ : Env} {t : Tape} {Q : List D → Tape → Prop} (h : ∃ ρ1, bindT tg d (wipeR ρ (slotsT tg ++ ownG g)) = some ρ1 ∧ wpE Φ Γ c ρ1 t fun x t1 => ∃ k, isTrueD x = some k ∧ (k = true → wpG Φ Γ g ρ1 t1 Q) ∧ (k = false → Q [] t1)) : Ok (turnF Φ Γ tg c g ρ d) t Q := by
  obtain ⟨ρ1, h1, h2⟩ := h
  exact ok_turn.mpr ⟨ρ1, h1, (wpE_ok c h2).mono fun _ _ ⟨k, h3, h4, h5⟩ => ⟨k, h3, fun z => wpG_ok g (h4 z), h5⟩⟩
mutual
theorem wpS_ok : ∀ (s : S) {ρ : Env} {t : Tape} {Q : Out → Tape → Prop}, wpS Φ Γ s ρ t Q → Ok (exS Φ Γ s ρ) t Q
  | .set i e, _, _, _, h => oks_set.mpr (wpE_ok e h)
  | .setO i e, _, _, _, h => oks_setO.mpr (wpE_ok e h)
  | .par is es, _, _, _, h => oks_par.mpr (wpA_ok es h)
  | .unp is e, _, _, _, h => oks_unp.mpr (wpE_ok e h)
  | .app i e, _, _, _, ⟨xs, h1, h2⟩ => oks_app.mpr ⟨xs, h1, wpE_ok e h2⟩
  | .seti i ix e, _, _, _, h => oks_seti.mpr ((wpE_ok e h).mono fun _ _ ⟨xs, h1, h2⟩ => ⟨xs, h1, wpE_ok ix h2⟩)
  | .popat i ix, _, _, _, ⟨xs, h1, h2⟩ => oks_popat.mpr ⟨xs, h1, wpE_ok ix h2⟩
  | .ins i ix e, _, _, _, ⟨xs, h1, h2⟩ => oks_ins.mpr ⟨xs, h1, (wpE_ok ix h2).mono fun _ _ h => wpE_ok e h⟩
  | .popv j i, _, _, _, h => oks_popv.mpr h
  | .frz i, _, _, _, h => oks_frz.mpr h
  | .ite c a b, _, _, _, h => oks_ite.mpr ((wpE_ok c h).mono fun _ _ ⟨k, h1, h2, h3⟩ => ⟨k, h1, fun z => wpSs_ok a (h2 z), fun z => wpSs_ok b (h3 z)⟩)
  | .ret e, _, _, _, h => oks_ret.mpr (wpE_ok e h)
  | .pass, _, _, _, h => oks_pass.mpr h
  | .tini i e, _, _, _, h => oks_tini.mpr (wpE_ok e h)
  | .tset ix e, _, _, _, h => oks_tset.mpr ((wpE_ok e h).mono fun _ _ ⟨h1, h2⟩ => ⟨h1, wpE_ok ix h2⟩)
  | .aug i o e, _, _, _, ⟨x, h1, h2⟩ => oks_aug.mpr ⟨x, h1, wpE_ok e h2⟩
  | .for_ tg it b, _, _, _, h => oks_for.mpr (wpI_ok true it h)
  | .while_ _ _, _, _, _, h => h
theorem wpSs_ok : ∀ (s : Ss) {ρ : Env} {t : Tape} {Q : Out → Tape → Prop}, wpSs Φ Γ s ρ t Q → Ok (exSs Φ Γ s ρ) t Q
  | .nil, _, _, _, h => okss_nil.mpr h
  | .cons s ss, _, _, _, h => okss_cons.mpr ((wpS_ok s h).mono fun o _ h => by
    obtain ⟨o, ρ'⟩ := o
    cases o with
    | none => exact wpSs_ok ss h
    | some r => exact h)
end
theorem wp_turnB {tg : Tgt} {b : Ss} {d : D} {ρ : Env} {t : Tape} {Q : Out → Tape → Prop} (h : ∃ ρ1, bindT tg d ρ = some ρ1 ∧ wpSs Φ Γ b ρ1 t Q) : Ok (turnB Φ Γ tg b d ρ) t Q := by
  obtain ⟨ρ1, h1, h2⟩ := h
  exact ok_turnB.mpr ⟨ρ1, h1, wpSs_ok b h2⟩
end
/-- a def, by its text -/
theorem wp_def {P : Str → Option Def} {Γ : Str → Option D} {t : Tape} {n : Nat} {f : Str} {d : Def} {ds : List D} {Q : R → Tape → Prop} (h : P f = some d) (hl : ds.length + (if d.tape then 1 else 0) = d.np ∧ d.np ≤ d.ns) (k : wpSs (callD P Γ n) Γ d.body (entry d ds) t fun o t' => Q (outR o) t') : Ok (callD P Γ (n + 1) f ds) t Q :=
  ok_def h hl (wpSs_ok d.body k)
end Ev

set_option Elab.async false
set_option linter.all false
set_option maxRecDepth 100000
set_option maxHeartbeats 4000000
namespace Ev
open PySem
def s__law_draw_1 : S := .ite (.cmp .gt (.bi .len (.cons (.tget (.cst (.int 0))) .nil)) (.cst (.int 0)))
 (.cons (.set 3 (.sub (.tget (.cst (.int 0))) (.bin .mod (.bi .int (.cons (.tget (.cst (.int 1))) .nil)) (.bi .len (.cons (.tget (.cst (.int 0))) .nil)))))
 .nil)
 .nil
def s__law_draw_2 : S := .ite (.or (.cmp .ge (.tget (.cst (.int 1))) (.bi .len (.cons (.tget (.cst (.int 0))) .nil))) (.cmp .lt (.var 3) (.bin .pow (.cst (.int 10)) (.cst (.int 18)))))
 (.cons (.set 3 (.bin .mod (.bi .int (.cons (.bin .add (.var 3) (.bin .mul (.cst (.int 1000003)) (.tget (.cst (.int 1))))) .nil)) (.var 2)))
 (.cons (.set 3 (.bin .mod (.bi .int (.cons (.bin .add (.bin .add (.bin .mul (.var 3) (.var 3)) (.bin .mul (.cst (.int 1181783497276652981)) (.var 3))) (.cst (.int 2049848353892358983))) .nil)) (.var 2)))
 (.cons (.set 3 (.bin .mod (.bi .int (.cons (.bin .add (.bin .mul (.var 3) (.var 3)) (.cst (.int 1442695040888963407))) .nil)) (.var 2)))
 .nil)))
 .nil
def s__law_draw_3 : S := .ite (.cmp .lt (.tget (.cst (.int 2))) (.var 1))
 (.cons (.set 3 (.cst (.int 0)))
 (.cons s__law_draw_1
 (.cons s__law_draw_2
 (.cons (.tset (.cst (.int 1)) (.bin .add (.tget (.cst (.int 1))) (.cst (.int 1))))
 (.cons (.tset (.cst (.int 2)) (.var 3))
 .nil)))))
 .nil
def d__law_draw : Def := ⟨2, true, 5,
 (.cons (.set 2 (.cst (.int 2305843009213693951)))
 (.cons s__law_draw_3
 (.cons (.set 4 (.bin .mod (.bi .int (.cons (.tget (.cst (.int 2))) .nil)) (.var 1)))
 (.cons (.tset (.cst (.int 2)) (.bin .fdiv (.tget (.cst (.int 2))) (.var 1)))
 (.cons (.ret (.var 4))
 .nil)))))⟩
/-- the drawing list as the draws keep it -/
def Drawn (t : Tape) : Prop := ∃ (xs : List Int) (a b : Int), t = [.list (xs.map .int), .int a, .int b] ∧ 0 ≤ a ∧ xs.length ≤ big
theorem Drawn.ne {t : Tape} (h : Drawn t) : t ≠ [] := by obtain ⟨xs, a, b, rfl, _⟩ := h; simp
theorem mix_ok (c : Int) : ∃ d, c % 2305843009213693951 = d ∧ -(2 ^ 64) < d ∧ d < 2 ^ 64 := by
  have := Int.emod_nonneg c (show (2305843009213693951 : Int) ≠ 0 by decide)
  have := Int.emod_lt_of_pos c (show (0 : Int) < 2305843009213693951 by decide)
  exact ⟨_, rfl, by omega, by omega⟩
abbrev drE (m c : Int) : Env := [none, some (.val (.int m)), some (.val (.int 2305843009213693951)), some (.val (.int c)), none]
section
variable {Φ : Call} {Γ : Str → Option D}
theorem dr_cell {m c a b : Int} {xs : List Int} {Q : Out → Tape → Prop} (ha : 0 ≤ a) (k : ∀ c, Q (none, drE m c) [.list (xs.map .int), .int a, .int b]) : wpS Φ Γ s__law_draw_1 (drE m c) [.list (xs.map .int), .int a, .int b] Q := by
  unfold s__law_draw_1
  repeat (first | refine ⟨fun _ => ?_, fun z => (nomatch (z : true = false))⟩ | refine ⟨fun z => (nomatch (z : false = true)), fun _ => ?_⟩ | refine ⟨_, bop_mul (mul_small (by decide)), ?_⟩ | refine ⟨_, bop_mul (mul_small2 (by decide)), ?_⟩ | refine ⟨_, rfl, ?_⟩ | refine ⟨List.cons_ne_nil _ _, ?_⟩)
  refine ⟨fun hl => ?_, fun hl => ?_⟩
  · have hl2 : (0 : Int) < ((xs.map PyData.int).length : Nat) := of_decide_eq_true hl
    repeat (first | refine ⟨fun _ => ?_, fun z => (nomatch (z : true = false))⟩ | refine ⟨fun z => (nomatch (z : false = true)), fun _ => ?_⟩ | refine ⟨_, bop_mul (mul_small (by decide)), ?_⟩ | refine ⟨_, bop_mul (mul_small2 (by decide)), ?_⟩ | refine ⟨_, rfl, ?_⟩ | refine ⟨List.cons_ne_nil _ _, ?_⟩)
    refine ⟨_, bop_mod hl2, ?_⟩
    have hx1 := Int.emod_nonneg a (show (((xs.map PyData.int).length : Nat) : Int) ≠ 0 by omega)
    have hx2 := Int.emod_lt_of_pos a hl2
    obtain ⟨x, hx3⟩ := sub_ints (xs := xs) hx1 (by simpa using hx2)
    refine ⟨_, hx3, ?_⟩
    repeat (first | refine ⟨fun _ => ?_, fun z => (nomatch (z : true = false))⟩ | refine ⟨fun z => (nomatch (z : false = true)), fun _ => ?_⟩ | refine ⟨_, bop_mul (mul_small (by decide)), ?_⟩ | refine ⟨_, bop_mul (mul_small2 (by decide)), ?_⟩ | refine ⟨_, rfl, ?_⟩ | refine ⟨List.cons_ne_nil _ _, ?_⟩)
    exact k _
  · exact k _
theorem dr_mix1 {m c a b : Int} {xs : List Int} {Q : Out → Tape → Prop} (k : ∀ c, Q (none, drE m c) [.list (xs.map .int), .int a, .int b]) : wpSs Φ Γ (match s__law_draw_2 with | .ite _ b _ => b | _ => .nil) (drE m c) [.list (xs.map .int), .int a, .int b] Q := by
  unfold s__law_draw_2
  repeat (first | refine ⟨fun _ => ?_, fun z => (nomatch (z : true = false))⟩ | refine ⟨fun z => (nomatch (z : false = true)), fun _ => ?_⟩ | refine ⟨_, bop_mul (mul_small (by decide)), ?_⟩ | refine ⟨_, bop_mul (mul_small2 (by decide)), ?_⟩ | refine ⟨_, rfl, ?_⟩ | refine ⟨List.cons_ne_nil _ _, ?_⟩)
  obtain ⟨c1, e1, h1⟩ := mix_ok (c + 1000003 * a)
  rw [e1]
  refine ⟨_, bop_mul (mul_small h1), ?_⟩
  repeat (first | refine ⟨fun _ => ?_, fun z => (nomatch (z : true = false))⟩ | refine ⟨fun z => (nomatch (z : false = true)), fun _ => ?_⟩ | refine ⟨_, bop_mul (mul_small (by decide)), ?_⟩ | refine ⟨_, bop_mul (mul_small2 (by decide)), ?_⟩ | refine ⟨_, rfl, ?_⟩ | refine ⟨List.cons_ne_nil _ _, ?_⟩)
  obtain ⟨c2, e2, h2⟩ := mix_ok (c1 * c1 + 1181783497276652981 * c1 + 2049848353892358983)
  rw [e2]
  refine ⟨_, bop_mul (mul_small h2), ?_⟩
  repeat (first | refine ⟨fun _ => ?_, fun z => (nomatch (z : true = false))⟩ | refine ⟨fun z => (nomatch (z : false = true)), fun _ => ?_⟩ | refine ⟨_, bop_mul (mul_small (by decide)), ?_⟩ | refine ⟨_, bop_mul (mul_small2 (by decide)), ?_⟩ | refine ⟨_, rfl, ?_⟩ | refine ⟨List.cons_ne_nil _ _, ?_⟩)
  obtain ⟨c3, e3, h3⟩ := mix_ok (c2 * c2 + 1442695040888963407)
  rw [e3]
  exact k _
theorem dr_mix {m c a b : Int} {xs : List Int} {Q : Out → Tape → Prop} (k : ∀ c, Q (none, drE m c) [.list (xs.map .int), .int a, .int b]) : wpS Φ Γ s__law_draw_2 (drE m c) [.list (xs.map .int), .int a, .int b] Q := by
  unfold s__law_draw_2
  repeat (first | refine ⟨fun _ => ?_, fun z => (nomatch (z : true = false))⟩ | refine ⟨fun z => (nomatch (z : false = true)), fun _ => ?_⟩ | refine ⟨_, bop_mul (mul_small (by decide)), ?_⟩ | refine ⟨_, bop_mul (mul_small2 (by decide)), ?_⟩ | refine ⟨_, rfl, ?_⟩ | refine ⟨List.cons_ne_nil _ _, ?_⟩)
  refine ⟨fun hl => ?_, fun hl => ?_⟩
  · refine ⟨_, rfl, fun _ => dr_mix1 k, fun z => nomatch (z : true = false)⟩
  · repeat (first | refine ⟨fun _ => ?_, fun z => (nomatch (z : true = false))⟩ | refine ⟨fun z => (nomatch (z : false = true)), fun _ => ?_⟩ | refine ⟨_, bop_mul (mul_small (by decide)), ?_⟩ | refine ⟨_, bop_mul (mul_small2 (by decide)), ?_⟩ | refine ⟨_, rfl, ?_⟩ | refine ⟨List.cons_ne_nil _ _, ?_⟩)
    refine ⟨fun hl => dr_mix1 k, fun hl => k _⟩
theorem dr_all {m a b : Int} {xs : List Int} {Q : Out → Tape → Prop} (ha : 0 ≤ a) (k : ∀ (o : Option R) (a b : Int), 0 ≤ a → Q (none, [none, some (.val (.int m)), some (.val (.int 2305843009213693951)), o, none]) [.list (xs.map .int), .int a, .int b]) : wpS Φ Γ s__law_draw_3 [none, some (.val (.int m)), some (.val (.int 2305843009213693951)), none, none] [.list (xs.map .int), .int a, .int b] Q := by
  unfold s__law_draw_3
  repeat (first | refine ⟨fun _ => ?_, fun z => (nomatch (z : true = false))⟩ | refine ⟨fun z => (nomatch (z : false = true)), fun _ => ?_⟩ | refine ⟨_, bop_mul (mul_small (by decide)), ?_⟩ | refine ⟨_, bop_mul (mul_small2 (by decide)), ?_⟩ | refine ⟨_, rfl, ?_⟩ | refine ⟨List.cons_ne_nil _ _, ?_⟩)
  refine ⟨fun hl => ?_, fun hl => ?_⟩
  · refine ⟨_, rfl, dr_cell ha fun c => dr_mix fun c => ?_⟩
    repeat (first | refine ⟨fun _ => ?_, fun z => (nomatch (z : true = false))⟩ | refine ⟨fun z => (nomatch (z : false = true)), fun _ => ?_⟩ | refine ⟨_, bop_mul (mul_small (by decide)), ?_⟩ | refine ⟨_, bop_mul (mul_small2 (by decide)), ?_⟩ | refine ⟨_, rfl, ?_⟩ | refine ⟨List.cons_ne_nil _ _, ?_⟩)
    exact k _ _ _ (by omega)
  · exact k _ _ _ ha
end
theorem sp_draw {P : Str → Option Def} {Γ : Str → Option D} (h : P "_law_draw" = some d__law_draw) (n : Nat) {t : Tape} (ht : Drawn t) {m : Int} (h1 : 1 ≤ m) (h2 : m.natAbs < 2 ^ 400) :
    Ok (callD P Γ (n + 1) "_law_draw" [.int m]) t fun r t' => (∃ v : Int, r = .val (.int v) ∧ 0 ≤ v ∧ v < m) ∧ Drawn t' := by
  obtain ⟨xs, a, b, rfl, ha, hx⟩ := ht
  refine wp_def h ⟨rfl, by decide⟩ ?_
  unfold d__law_draw
  refine ⟨_, rfl, dr_all ha fun o a b ha => ?_⟩
  repeat (first | refine ⟨fun _ => ?_, fun z => (nomatch (z : true = false))⟩ | refine ⟨fun z => (nomatch (z : false = true)), fun _ => ?_⟩ | refine ⟨_, bop_mul (mul_small (by decide)), ?_⟩ | refine ⟨_, bop_mul (mul_small2 (by decide)), ?_⟩ | refine ⟨_, rfl, ?_⟩ | refine ⟨List.cons_ne_nil _ _, ?_⟩)
  refine ⟨_, bop_mod (by omega), ?_⟩
  repeat (first | refine ⟨fun _ => ?_, fun z => (nomatch (z : true = false))⟩ | refine ⟨fun z => (nomatch (z : false = true)), fun _ => ?_⟩ | refine ⟨_, bop_mul (mul_small (by decide)), ?_⟩ | refine ⟨_, bop_mul (mul_small2 (by decide)), ?_⟩ | refine ⟨_, rfl, ?_⟩ | refine ⟨List.cons_ne_nil _ _, ?_⟩)
  refine ⟨_, bop_fdiv (by omega) h2, ?_⟩
  repeat (first | refine ⟨fun _ => ?_, fun z => (nomatch (z : true = false))⟩ | refine ⟨fun z => (nomatch (z : false = true)), fun _ => ?_⟩ | refine ⟨_, bop_mul (mul_small (by decide)), ?_⟩ | refine ⟨_, bop_mul (mul_small2 (by decide)), ?_⟩ | refine ⟨_, rfl, ?_⟩ | refine ⟨List.cons_ne_nil _ _, ?_⟩)
  exact ⟨⟨_, rfl, Int.emod_nonneg _ (by omega), Int.emod_lt_of_pos _ (by omega)⟩, xs, a, b / m, rfl, ha, hx⟩
end Ev

set_option Elab.async false
set_option linter.all false
set_option maxRecDepth 100000
set_option maxHeartbeats 1000000
namespace Ev
open PySem
def s__law_like_1 : S := .ite (.or (.cmp .ne (.isi (.var 0) ["list"]) (.isi (.var 1) ["list"])) (.cmp .ne (.isi (.var 0) ["tuple"]) (.isi (.var 1) ["tuple"])))
 (.cons (.ret (.cst (.bool false)))
 .nil)
 .nil
def s__law_like_2 : S := .ite (.cmp .ne (.bi .len (.cons (.var 0) .nil)) (.bi .len (.cons (.var 1) .nil)))
 (.cons (.ret (.cst (.bool false)))
 .nil)
 .nil
def s__law_like_3 : S := .ite (.isi (.var 0) ["list", "tuple"])
 (.cons s__law_like_1
 (.cons s__law_like_2
 (.cons (.ret (.cmp .eq (.comp (.name 2) (.rng (.bi .len (.cons (.var 0) .nil))) (.not (.call "_law_like" (.cons (.sub (.var 0) (.var 2)) (.cons (.sub (.var 1) (.var 2)) .nil)))) (.elt (.var 2))) (.lst .nil)))
 .nil)))
 .nil
def s__law_like_4 : S := .ite (.isi (.var 1) ["list", "tuple"])
 (.cons (.ret (.cst (.bool false)))
 .nil)
 .nil
def d__law_like : Def := ⟨2, false, 3,
 (.cons s__law_like_3
 (.cons s__law_like_4
 (.cons (.ret (.and (.cmp .eq (.isi (.var 0) ["bool"]) (.isi (.var 1) ["bool"])) (.cmp .eq (.var 0) (.var 1))))
 .nil)))⟩
def s__law_tail_1 : S := .for_ (.name 2) (.rng (.sub (.lst (.cons (.cst (.int 0)) (.cons (.cst (.int 0)) (.cons (.cst (.int 0)) (.cons (.cst (.int 1)) (.cons (.cst (.int 1)) (.cons (.cst (.int 2)) (.cons (.cst (.int 3)) (.cons (.cst (.int 4)) .nil))))))))) (.callT "_law_draw" (.cons (.cst (.int 8)) .nil))))
 (.cons (.set 1 (.bin .add (.var 1) (.tup (.cons (.sub (.lst (.cons (.cst (.int 0)) (.cons (.cst (.int 1)) (.cons (.cst (.int 2)) (.cons (.cst (.str "a")) (.cons (.cst (.str "b")) (.cons (.cst (.str "rc")) (.cons (.cst (.int 10)) (.cons (.cst (.int 0)) .nil))))))))) (.callT "_law_draw" (.cons (.cst (.int 8)) .nil))) .nil))))
 .nil)
def d__law_tail : Def := ⟨1, true, 3,
 (.cons (.set 1 (.tup .nil))
 (.cons s__law_tail_1
 (.cons (.ret (.var 1))
 .nil)))⟩
def d__law_numbers : Def := ⟨2, true, 2,
 (.cons (.ret (.tup (.cons (.callT "_law_draw" (.cons (.bin .add (.var 1) (.cst (.int 1))) .nil)) (.cons (.callT "_law_draw" (.cons (.bin .add (.var 1) (.cst (.int 1))) .nil)) (.cons (.callT "_law_draw" (.cons (.bin .add (.var 1) (.cst (.int 1))) .nil)) .nil)))))
 .nil)⟩
def d__law_version : Def := ⟨2, true, 2,
 (.cons (.ret (.tup (.cons (.callT "_law_numbers" (.cons (.var 1) .nil)) (.cons (.callT "_law_tail" .nil) .nil))))
 .nil)⟩
end Ev

set_option Elab.async false
set_option linter.all false
set_option maxRecDepth 100000
set_option maxHeartbeats 1000000
/-! EvT: typed values as data: how they are written, compared and told apart. -/
namespace Ev
open PySem
abbrev Enc (α : Type) := α → D
/-- texts of signs -/
abbrev Tx := {s : Str // PyData.strOk s = true ∧ s.length ≤ 1000}
def eI : Enc Int := fun i => .int i
def eB : Enc Bool := fun b => .bool b
def eS : Enc Tx := fun s => .str s.1
def eD : Enc D := fun d => d
def eU : Enc Unit := fun _ => .none
section
variable {α β γ δ : Type}
def eT (e : Enc α) : Enc (List α) := fun xs => .tuple (xs.map e)
def eL (e : Enc α) : Enc (List α) := fun xs => .list (xs.map e)
def eP (a : Enc α) (b : Enc β) : Enc (α × β) := fun p => .tuple [a p.1, b p.2]
def e3 (a : Enc α) (b : Enc β) (c : Enc γ) : Enc (α × β × γ) := fun p => .tuple [a p.1, b p.2.1, c p.2.2]
def eO (e : Enc α) : Enc (Option α)
  | none => .none
  | some x => e x
end
/-- an item of a tail -/
inductive Item where
  | num (i : Int)
  | word (s : Tx)
  deriving DecidableEq
def eIt : Enc Item
  | .num i => .int i
  | .word s => .str s.1

/-! ### data that the model compares -/
class OkE {α : Type} (e : Enc α) (n : outParam Nat) : Prop where
  ok : ∀ x, ok n (e x) = true
theorem okAll_map {α : Type} {e : Enc α} {n : Nat} (h : ∀ x, ok n (e x) = true) : ∀ xs : List α, okAll n (xs.map e) = true
  | [] => rfl
  | x :: xs => by rw [List.map_cons, okAll, h x, okAll_map h xs]; rfl
mutual
theorem ok_up : ∀ (n m : Nat) (d : D), n ≤ m → ok n d = true → ok m d = true
  | n, m, .none, _, _ => rfl
  | n, m, .bool _, _, _ => rfl
  | n, m, .int _, _, _ => rfl
  | n, m, .str x, _, e => by simpa [ok] using e
  | 0, _, .list ds, _, e => by simp [ok] at e
  | n + 1, 0, .list ds, h, e => by omega
  | n + 1, m + 1, .list ds, h, e => by
    simp only [ok] at e ⊢
    exact okAll_up n m ds (by omega) e
  | 0, _, .tuple ds, _, e => by simp [ok] at e
  | n + 1, 0, .tuple ds, h, e => by omega
  | n + 1, m + 1, .tuple ds, h, e => by
    simp only [ok] at e ⊢
    exact okAll_up n m ds (by omega) e
  | _, _, .dict _, _, e => by simp [ok] at e
theorem okAll_up : ∀ (n m : Nat) (ds : List D), n ≤ m → okAll n ds = true → okAll m ds = true
  | _, _, [], _, _ => rfl
  | n, m, d :: ds, h, e => by
    simp only [okAll, Bool.and_eq_true] at e ⊢
    exact ⟨ok_up n m d h e.1, okAll_up n m ds h e.2⟩
end
section
variable {α β γ : Type} {a : Enc α} {b : Enc β} {c : Enc γ} {n m k : Nat}
instance : OkE eI 0 := ⟨fun _ => rfl⟩
instance : OkE eB 0 := ⟨fun _ => rfl⟩
instance : OkE eU 0 := ⟨fun _ => rfl⟩
instance : OkE eS 0 := ⟨fun s => s.2.1⟩
instance : OkE eIt 0 := ⟨fun x => by cases x with | num i => rfl | word s => exact s.2.1⟩
instance [h : OkE a n] : OkE (eT a) (n + 1) := ⟨fun xs => by show ok (n + 1) (.tuple (xs.map a)) = true; rw [ok]; exact okAll_map h.ok xs⟩
instance [h : OkE a n] : OkE (eL a) (n + 1) := ⟨fun xs => by show ok (n + 1) (.list (xs.map a)) = true; rw [ok]; exact okAll_map h.ok xs⟩
instance [h : OkE a n] : OkE (eO a) n := ⟨fun x => by cases x with | none => rfl | some x => exact h.ok x⟩
instance [h : OkE a n] [h' : OkE b m] : OkE (eP a b) (max n m + 1) := ⟨fun x => by
  show ok (max n m + 1) (.tuple [a x.1, b x.2]) = true
  rw [ok, okAll, okAll, okAll, ok_up _ _ _ (Nat.le_max_left n m) (h.ok _), ok_up _ _ _ (Nat.le_max_right n m) (h'.ok _)]; rfl⟩
instance [h : OkE a n] [h' : OkE b m] [h'' : OkE c k] : OkE (e3 a b c) (max n (max m k) + 1) := ⟨fun x => by
  show ok (max n (max m k) + 1) (.tuple [a x.1, b x.2.1, c x.2.2]) = true
  rw [ok, okAll, okAll, okAll, okAll, ok_up n _ _ (by omega) (h.ok _), ok_up m _ _ (by omega) (h'.ok _), ok_up k _ _ (by omega) (h''.ok _)]; rfl⟩
end
theorem OkE.at60 {α : Type} {e : Enc α} {n : Nat} (h : OkE e n) (hn : n ≤ 60) (x : α) : Ev.ok 60 (e x) = true := ok_up _ _ _ hn (h.ok x)

/-! ### told apart by == -/
class EqE {α : Type} (e : Enc α) [DecidableEq α] : Prop where
  eq : ∀ x y, PyData.eqv (e x) (e y) = decide (x = y)
/-- never None -/
class NnE {α : Type} (e : Enc α) : Prop where
  nn : ∀ x, e x ≠ .none
theorem eqvAll_maps {α : Type} [DecidableEq α] {e : Enc α} (h : ∀ x y, PyData.eqv (e x) (e y) = decide (x = y)) : ∀ xs ys : List α, PyData.eqvAll (xs.map e) (ys.map e) = decide (xs = ys)
  | [], [] => by simp [PyData.eqvAll]
  | [], y :: ys => by simp [PyData.eqvAll]
  | x :: xs, [] => by simp [PyData.eqvAll]
  | x :: xs, y :: ys => by
    rw [List.map_cons, List.map_cons, eqv_all_cons', h x y, eqvAll_maps h xs ys]
    simp
where eqv_all_cons' {x y : D} {xs ys : List D} : PyData.eqvAll (x :: xs) (y :: ys) = (PyData.eqv x y && PyData.eqvAll xs ys) := by rw [PyData.eqvAll]
theorem eqv_none_l {d : D} (h : d ≠ .none) : PyData.eqv .none d = false := by cases d <;> first | rfl | exact absurd rfl h
theorem eqv_none_r {d : D} (h : d ≠ .none) : PyData.eqv d .none = false := by cases d <;> first | rfl | exact absurd rfl h
section
variable {α β γ : Type} [DecidableEq α] [DecidableEq β] [DecidableEq γ] {a : Enc α} {b : Enc β} {c : Enc γ}
instance : EqE eI := ⟨fun x y => by show (x == y) = _; exact Bool.eq_iff_iff.mpr (by simp)⟩
instance : EqE eB := ⟨fun x y => by cases x <;> cases y <;> rfl⟩
instance : EqE eU := ⟨fun x y => rfl⟩
instance : EqE eS := ⟨fun x y => by
  show (x.1 == y.1) = _
  exact Bool.eq_iff_iff.mpr (by simp [Subtype.ext_iff])⟩
instance : EqE eIt := ⟨fun x y => by
  cases x with
  | num i => cases y with
    | num j => show (i == j) = _; exact Bool.eq_iff_iff.mpr (by simp)
    | word s => exact (decide_eq_false (by simp)).symm
  | word s => cases y with
    | num j => exact (decide_eq_false (by simp)).symm
    | word s' => show (s.1 == s'.1) = _; exact Bool.eq_iff_iff.mpr (by simp [Subtype.ext_iff])⟩
instance [h : EqE a] : EqE (eT a) := ⟨fun x y => eqvAll_maps h.eq x y⟩
instance [h : EqE a] : EqE (eL a) := ⟨fun x y => eqvAll_maps h.eq x y⟩
instance [h : EqE a] [n : NnE a] : EqE (eO a) := ⟨fun x y => by
  cases x with
  | none => cases y with
    | none => rfl
    | some y => exact (eqv_none_l (n.nn y)).trans (decide_eq_false (by simp)).symm
  | some x => cases y with
    | none => exact (eqv_none_r (n.nn x)).trans (decide_eq_false (by simp)).symm
    | some y => rw [show eO a (some x) = a x from rfl, show eO a (some y) = a y from rfl, h.eq]; simp⟩
theorem eqv_two (x y x' y' : D) : PyData.eqv (.tuple [x, y]) (.tuple [x', y']) = (PyData.eqv x x' && PyData.eqv y y') := by
  rw [PyData.eqv, PyData.eqvAll, PyData.eqvAll, PyData.eqvAll, Bool.and_true]
theorem eqv_three (x y z x' y' z' : D) : PyData.eqv (.tuple [x, y, z]) (.tuple [x', y', z']) = (PyData.eqv x x' && (PyData.eqv y y' && PyData.eqv z z')) := by
  rw [PyData.eqv, PyData.eqvAll, PyData.eqvAll, PyData.eqvAll, PyData.eqvAll, Bool.and_true]
instance [h : EqE a] [h' : EqE b] : EqE (eP a b) := ⟨fun x y => by
  show PyData.eqv (.tuple [a x.1, b x.2]) (.tuple [a y.1, b y.2]) = _
  rw [eqv_two, h.eq, h'.eq]
  exact Bool.eq_iff_iff.mpr (by simp [Prod.ext_iff])⟩
instance [h : EqE a] [h' : EqE b] [h'' : EqE c] : EqE (e3 a b c) := ⟨fun x y => by
  show PyData.eqv (.tuple [a x.1, b x.2.1, c x.2.2]) (.tuple [a y.1, b y.2.1, c y.2.2]) = _
  rw [eqv_three, h.eq, h'.eq, h''.eq]
  exact Bool.eq_iff_iff.mpr (by simp [Prod.ext_iff])⟩
end
section
variable {α β γ : Type} {a : Enc α} {b : Enc β} {c : Enc γ}
instance : NnE eI := ⟨fun _ h => nomatch h⟩
instance : NnE eB := ⟨fun _ h => nomatch h⟩
instance : NnE eS := ⟨fun _ h => nomatch h⟩
instance : NnE eIt := ⟨fun x h => by cases x <;> exact nomatch h⟩
instance : NnE (eT a) := ⟨fun _ h => nomatch h⟩
instance : NnE (eL a) := ⟨fun _ h => nomatch h⟩
instance : NnE (eP a b) := ⟨fun _ h => nomatch h⟩
instance : NnE (e3 a b c) := ⟨fun _ h => nomatch h⟩
end

/-! ### by order -/
class LtE {α : Type} (e : Enc α) (lt : outParam (α → α → Bool)) : Prop where
  hak : ∀ x y, Ev.alk (e x) (e y) = true
  hlt : ∀ x y, ordD .lt (e x) (e y) = lt x y
  hgt : ∀ x y, ordD .gt (e x) (e y) = lt y x
  hle : ∀ x y, ordD .le (e x) (e y) = !lt y x
  hge : ∀ x y, ordD .ge (e x) (e y) = !lt x y
  irr : ∀ x, lt x x = false
def ltI (i j : Int) : Bool := decide (i < j)
def ltB (x y : Tx) : Bool := decide (x.1.cps.toList < y.1.cps.toList)
section
variable {α β γ : Type} [DecidableEq α] [DecidableEq β] [DecidableEq γ]
def ltP (l : α → α → Bool) (r : β → β → Bool) (x y : α × β) : Bool := if x.1 = y.1 then r x.2 y.2 else l x.1 y.1
def lt3 (l : α → α → Bool) (r : β → β → Bool) (q : γ → γ → Bool) (x y : α × β × γ) : Bool := if x.1 = y.1 then (if x.2.1 = y.2.1 then q x.2.2 y.2.2 else r x.2.1 y.2.1) else l x.1 y.1
def ltL (l : α → α → Bool) : List α → List α → Bool
  | x :: xs, y :: ys => if x = y then ltL l xs ys else l x y
  | [], _ :: _ => true
  | _, [] => false
variable {a : Enc α} {b : Enc β} {c : Enc γ} {l : α → α → Bool} {r : β → β → Bool} {q : γ → γ → Bool}
instance : LtE eI ltI where
  hak := fun _ _ => rfl
  hlt := fun _ _ => rfl
  hgt := fun _ _ => rfl
  hle := fun x y => by
    show decide (x ≤ y) = !decide (y < x)
    by_cases h : y < x
    · rw [decide_eq_true h, decide_eq_false (by omega)]; rfl
    · rw [decide_eq_false h, decide_eq_true (by omega)]; rfl
  hge := fun x y => by
    show decide (x ≥ y) = !decide (x < y)
    by_cases h : x < y
    · rw [decide_eq_true h, decide_eq_false (by omega)]; rfl
    · rw [decide_eq_false h, decide_eq_true (by omega)]; rfl
  irr := fun x => decide_eq_false (by omega)
instance : LtE eS ltB where
  hak := fun _ _ => rfl
  hlt := fun _ _ => rfl
  hgt := fun _ _ => rfl
  hle := fun _ _ => rfl
  hge := fun _ _ => rfl
  irr := fun x => decide_eq_false (List.lt_irrefl _)
theorem ordAll_cons (o : COp) (x y : D) (xs ys : List D) : ordAll o (x :: xs) (y :: ys) = if PyData.eqv x y then ordAll o xs ys else ordD o x y := by rw [ordAll]
theorem ordD_tup (o : COp) (xs ys : List D) : ordD o (.tuple xs) (.tuple ys) = ordAll o xs ys := by rw [ordD]
theorem ordD_lst (o : COp) (xs ys : List D) : ordD o (.list xs) (.list ys) = ordAll o xs ys := by rw [ordD]
theorem ordAll_nil (o : COp) (ys : List D) : ordAll o [] ys = ordN o 0 ys.length := by
  rw [ordAll]
  · rfl
  · intro x xs y ys h; cases h
theorem ordAll_nil2 (o : COp) (xs : List D) : ordAll o xs [] = ordN o xs.length 0 := by
  rw [ordAll]
  · rfl
  · intro x xs y ys _ h; cases h
theorem alkAll_two {x y x' y' : D} (h : Ev.alk x x' = true) (h' : Ev.alk y y' = true) : Ev.alk (.tuple [x, y]) (.tuple [x', y']) = true := by
  rw [Ev.alk, alkAll, alkAll, alkAll, h, h']
  · rfl
  · intro x xs y ys h; cases h
instance [h : LtE a l] [h' : LtE b r] [k : EqE a] [k' : EqE b] : LtE (eP a b) (ltP l r) where
  hak := fun x y => alkAll_two (h.hak _ _) (h'.hak _ _)
  hlt := fun x y => by
    show ordD .lt (.tuple [a x.1, b x.2]) (.tuple [a y.1, b y.2]) = _
    rw [ordD_tup, ordAll_cons, ordAll_cons, ordAll_nil, k.eq, k'.eq, h.hlt, h'.hlt]
    unfold ltP
    by_cases e : x.1 = y.1
    · by_cases e2 : x.2 = y.2
      · simp [e, e2, ordN, h'.irr]
      · simp [e, e2]
    · simp [e]
  hgt := fun x y => by
    show ordD .gt (.tuple [a x.1, b x.2]) (.tuple [a y.1, b y.2]) = _
    rw [ordD_tup, ordAll_cons, ordAll_cons, ordAll_nil, k.eq, k'.eq, h.hgt, h'.hgt]
    unfold ltP
    by_cases e : x.1 = y.1
    · by_cases e2 : x.2 = y.2
      · simp [e, e2, ordN, h'.irr]
      · simp [e, e2]
    · simp [e, Ne.symm e]
  hle := fun x y => by
    show ordD .le (.tuple [a x.1, b x.2]) (.tuple [a y.1, b y.2]) = _
    rw [ordD_tup, ordAll_cons, ordAll_cons, ordAll_nil, k.eq, k'.eq, h.hle, h'.hle]
    unfold ltP
    by_cases e : x.1 = y.1
    · by_cases e2 : x.2 = y.2
      · simp [e, e2, ordN, h'.irr]
      · simp [e, e2]
    · simp [e, Ne.symm e]
  hge := fun x y => by
    show ordD .ge (.tuple [a x.1, b x.2]) (.tuple [a y.1, b y.2]) = _
    rw [ordD_tup, ordAll_cons, ordAll_cons, ordAll_nil, k.eq, k'.eq, h.hge, h'.hge]
    unfold ltP
    by_cases e : x.1 = y.1
    · by_cases e2 : x.2 = y.2
      · simp [e, e2, ordN, h'.irr]
      · simp [e, e2]
    · simp [e]
  irr := fun x => by simp [ltP, h'.irr]
theorem alkAll_three {x y z x' y' z' : D} (h : Ev.alk x x' = true) (h' : Ev.alk y y' = true) (h'' : Ev.alk z z' = true) : Ev.alk (.tuple [x, y, z]) (.tuple [x', y', z']) = true := by
  rw [Ev.alk, alkAll, alkAll, alkAll, alkAll, h, h', h'']
  · rfl
  · intro x xs y ys h; cases h
instance [h : LtE a l] [h' : LtE b r] [h'' : LtE c q] [k : EqE a] [k' : EqE b] [k'' : EqE c] : LtE (e3 a b c) (lt3 l r q) where
  hak := fun x y => alkAll_three (h.hak _ _) (h'.hak _ _) (h''.hak _ _)
  hlt := fun x y => by
    show ordD .lt (.tuple [a x.1, b x.2.1, c x.2.2]) (.tuple [a y.1, b y.2.1, c y.2.2]) = _
    rw [ordD_tup, ordAll_cons, ordAll_cons, ordAll_cons, ordAll_nil, k.eq, k'.eq, k''.eq, h.hlt, h'.hlt, h''.hlt]
    unfold lt3
    by_cases e : x.1 = y.1 <;> by_cases e2 : x.2.1 = y.2.1 <;> by_cases e3 : x.2.2 = y.2.2 <;> simp [e, e2, e3, ordN, h''.irr]
  hgt := fun x y => by
    show ordD .gt (.tuple [a x.1, b x.2.1, c x.2.2]) (.tuple [a y.1, b y.2.1, c y.2.2]) = _
    rw [ordD_tup, ordAll_cons, ordAll_cons, ordAll_cons, ordAll_nil, k.eq, k'.eq, k''.eq, h.hgt, h'.hgt, h''.hgt]
    unfold lt3
    by_cases e : x.1 = y.1 <;> by_cases e2 : x.2.1 = y.2.1 <;> by_cases e3 : x.2.2 = y.2.2 <;> simp [e, e2, e3, ordN, h''.irr, eq_comm (a := y.1), eq_comm (a := y.2.1)]
  hle := fun x y => by
    show ordD .le (.tuple [a x.1, b x.2.1, c x.2.2]) (.tuple [a y.1, b y.2.1, c y.2.2]) = _
    rw [ordD_tup, ordAll_cons, ordAll_cons, ordAll_cons, ordAll_nil, k.eq, k'.eq, k''.eq, h.hle, h'.hle, h''.hle]
    unfold lt3
    by_cases e : x.1 = y.1 <;> by_cases e2 : x.2.1 = y.2.1 <;> by_cases e3 : x.2.2 = y.2.2 <;> simp [e, e2, e3, ordN, h''.irr, eq_comm (a := y.1), eq_comm (a := y.2.1)]
  hge := fun x y => by
    show ordD .ge (.tuple [a x.1, b x.2.1, c x.2.2]) (.tuple [a y.1, b y.2.1, c y.2.2]) = _
    rw [ordD_tup, ordAll_cons, ordAll_cons, ordAll_cons, ordAll_nil, k.eq, k'.eq, k''.eq, h.hge, h'.hge, h''.hge]
    unfold lt3
    by_cases e : x.1 = y.1 <;> by_cases e2 : x.2.1 = y.2.1 <;> by_cases e3 : x.2.2 = y.2.2 <;> simp [e, e2, e3, ordN, h''.irr]
  irr := fun x => by simp [lt3, h''.irr]
theorem alkAll_maps (h : ∀ x y, Ev.alk (a x) (a y) = true) : ∀ xs ys : List α, alkAll (xs.map a) (ys.map a) = true
  | [], ys => by rw [List.map_nil, alkAll]; intro x xs y ys h; cases h
  | x :: xs, [] => by rw [List.map_nil, alkAll]; intro x xs y ys _ h; cases h
  | x :: xs, y :: ys => by rw [List.map_cons, List.map_cons, alkAll, h, alkAll_maps h xs ys]; rfl
theorem ltL_irr (h : ∀ x, l x x = false) : ∀ xs, ltL l xs xs = false
  | [] => by simp [ltL]
  | x :: xs => by simp [ltL, ltL_irr h xs]
section
variable (h : LtE a l) (k : EqE a)
include h k
theorem ordAll_lt : ∀ xs ys : List α, ordAll .lt (xs.map a) (ys.map a) = ltL l xs ys
  | [], ys => by rw [List.map_nil, ordAll_nil, List.length_map]; cases ys <;> simp [ordN, ltL]
  | x :: xs, [] => by rw [List.map_nil, ordAll_nil2]; simp [ordN, ltL]
  | x :: xs, y :: ys => by
    rw [List.map_cons, List.map_cons, ordAll_cons, k.eq, h.hlt, ordAll_lt xs ys, ltL]
    simp
theorem ordAll_gt : ∀ xs ys : List α, ordAll .gt (xs.map a) (ys.map a) = ltL l ys xs
  | [], ys => by rw [List.map_nil, ordAll_nil, List.length_map]; cases ys <;> simp [ordN, ltL]
  | x :: xs, [] => by rw [List.map_nil, ordAll_nil2]; simp [ordN, ltL]
  | x :: xs, y :: ys => by
    rw [List.map_cons, List.map_cons, ordAll_cons, k.eq, h.hgt, ordAll_gt xs ys, ltL]
    by_cases e : x = y
    · simp [e]
    · simp [e, Ne.symm e]
theorem ordAll_le : ∀ xs ys : List α, ordAll .le (xs.map a) (ys.map a) = !ltL l ys xs
  | [], ys => by rw [List.map_nil, ordAll_nil, List.length_map]; cases ys <;> simp [ordN, ltL]
  | x :: xs, [] => by rw [List.map_nil, ordAll_nil2]; simp [ordN, ltL]
  | x :: xs, y :: ys => by
    rw [List.map_cons, List.map_cons, ordAll_cons, k.eq, h.hle, ordAll_le xs ys, ltL]
    by_cases e : x = y
    · simp [e]
    · simp [e, Ne.symm e]
theorem ordAll_ge : ∀ xs ys : List α, ordAll .ge (xs.map a) (ys.map a) = !ltL l xs ys
  | [], ys => by rw [List.map_nil, ordAll_nil, List.length_map]; cases ys <;> simp [ordN, ltL]
  | x :: xs, [] => by rw [List.map_nil, ordAll_nil2]; simp [ordN, ltL]
  | x :: xs, y :: ys => by
    rw [List.map_cons, List.map_cons, ordAll_cons, k.eq, h.hge, ordAll_ge xs ys, ltL]
    by_cases e : x = y
    · simp [e]
    · simp [e]
end
instance [h : LtE a l] [k : EqE a] : LtE (eT a) (ltL l) where
  hak := fun x y => by show Ev.alk (.tuple _) (.tuple _) = true; rw [Ev.alk]; exact alkAll_maps h.hak x y
  hlt := fun x y => by show ordD .lt (.tuple _) (.tuple _) = _; rw [ordD_tup]; exact ordAll_lt h k x y
  hgt := fun x y => by show ordD .gt (.tuple _) (.tuple _) = _; rw [ordD_tup]; exact ordAll_gt h k x y
  hle := fun x y => by show ordD .le (.tuple _) (.tuple _) = _; rw [ordD_tup]; exact ordAll_le h k x y
  hge := fun x y => by show ordD .ge (.tuple _) (.tuple _) = _; rw [ordD_tup]; exact ordAll_ge h k x y
  irr := ltL_irr h.irr
instance [h : LtE a l] [k : EqE a] : LtE (eL a) (ltL l) where
  hak := fun x y => by show Ev.alk (.list _) (.list _) = true; rw [Ev.alk]; exact alkAll_maps h.hak x y
  hlt := fun x y => by show ordD .lt (.list _) (.list _) = _; rw [ordD_lst]; exact ordAll_lt h k x y
  hgt := fun x y => by show ordD .gt (.list _) (.list _) = _; rw [ordD_lst]; exact ordAll_gt h k x y
  hle := fun x y => by show ordD .le (.list _) (.list _) = _; rw [ordD_lst]; exact ordAll_le h k x y
  hge := fun x y => by show ordD .ge (.list _) (.list _) = _; rw [ordD_lst]; exact ordAll_ge h k x y
  irr := ltL_irr h.irr
end
end Ev

set_option Elab.async false
set_option linter.all false
set_option maxRecDepth 100000
set_option maxHeartbeats 1000000
/-! EvT2: a run of the evaluator follows a run over typed values. -/
namespace Ev
open PySem
theorem bnd_inv {α β : Type} {m : M α} {f : α → M β} {t t' : Tape} {b : β} (h : bnd m f t = some (b, t')) : ∃ a t1, m t = some (a, t1) ∧ f a t1 = some (b, t') := by
  unfold bnd at h
  split at h
  · rename_i a t1 e; exact ⟨a, t1, e, h⟩
  · cases h
theorem bnd_at {α β : Type} {m : M α} {f : α → M β} {t t1 : Tape} {a : α} (h : m t = some (a, t1)) : bnd m f t = f a t1 := by unfold bnd; rw [h]
theorem lift_inv {α : Type} {o : Option α} {t t' : Tape} {a : α} (h : lift o t = some (a, t')) : o = some a ∧ t' = t := by
  cases o with
  | none => cases h
  | some b => cases h; exact ⟨rfl, rfl⟩
theorem ret_inv {α : Type} {a b : α} {t t' : Tape} (h : ret a t = some (b, t')) : a = b ∧ t' = t := by cases h; exact ⟨rfl, rfl⟩
theorem lift_at {α : Type} {o : Option α} {t : Tape} {a : α} (h : o = some a) : lift o t = some (a, t) := by rw [h]; rfl
/-- a value, a list that nobody holds yet, something with this datum to be kept, to be looked at -/
def Sv {α : Type} (u : M R) (e : Enc α) (m : M α) : Prop := ∀ t x t', m t = some (x, t') → u t = some (.val (e x), t')
def So {α : Type} (u : M R) (e : Enc α) (m : M (List α)) : Prop := ∀ t x t', m t = some (x, t') → u t = some (.own (x.map e), t')
def Sf {α : Type} (u : M R) (e : Enc α) (m : M α) : Prop := ∀ t x t', m t = some (x, t') → ∃ r, u t = some (r, t') ∧ r.fix = some (e x)
def Sk {α : Type} (u : M R) (e : Enc α) (m : M α) : Prop := ∀ t x t', m t = some (x, t') → ∃ r, u t = some (r, t') ∧ r.look = e x
theorem fix_look {r : R} {d : D} (h : r.fix = some d) : r.look = d := by cases r <;> simp [R.fix] at h <;> exact h
section
variable {Φ : Call} {Γ : Str → Option D} {ρ : Env} {α β γ δ : Type} {ea : Enc α} {eb : Enc β} {ec : Enc γ} {ed : Enc δ} {ma : M α} {mb : M β} {mc : M γ}
theorem Sv.f {u : M R} (h : Sv u ea ma) : Sf u ea ma := fun t x t' e => ⟨_, h t x t' e, rfl⟩
theorem Sf.k {u : M R} (h : Sf u ea ma) : Sk u ea ma := fun t x t' e => let ⟨r, h1, h2⟩ := h t x t' e; ⟨r, h1, fix_look h2⟩
theorem Sv.k {u : M R} (h : Sv u ea ma) : Sk u ea ma := h.f.k
theorem So.f {u : M R} {ml : M (List α)} (h : So u ea ml) : Sf u (eL ea) ml := fun t x t' e => ⟨_, h t x t' e, rfl⟩
theorem So.k {u : M R} {ml : M (List α)} (h : So u ea ml) : Sk u (eL ea) ml := h.f.k
/-! another reading of the same datum: g (partial), where it is -/
theorem Sv.cast {u : M R} {g : α → Option β} (h : Sv u ea ma) (hg : ∀ x y, g x = some y → ea x = eb y) : Sv u eb (bnd ma fun x => lift (g x)) := fun t y t' e => by
  obtain ⟨x, t1, e1, e2⟩ := bnd_inv e
  obtain ⟨e3, rfl⟩ := lift_inv e2
  rw [h _ _ _ e1, hg _ _ e3]
theorem Sv.up {u : M R} {g : α → β} (h : Sv u ea ma) (hg : ∀ x, ea x = eb (g x)) : Sv u eb (bnd ma fun x => ret (g x)) := fun t y t' e => by
  obtain ⟨x, t1, e1, e2⟩ := bnd_inv e
  obtain ⟨rfl, rfl⟩ := ret_inv e2
  rw [h _ _ _ e1, hg]
theorem Sf.cast {u : M R} {g : α → Option β} (h : Sf u ea ma) (hg : ∀ x y, g x = some y → ea x = eb y) : Sf u eb (bnd ma fun x => lift (g x)) := fun t y t' e => by
  obtain ⟨x, t1, e1, e2⟩ := bnd_inv e
  obtain ⟨e3, rfl⟩ := lift_inv e2
  obtain ⟨r, h1, h2⟩ := h _ _ _ e1
  exact ⟨r, h1, by rw [h2, hg _ _ e3]⟩
theorem Sf.up {u : M R} {g : α → β} (h : Sf u ea ma) (hg : ∀ x, ea x = eb (g x)) : Sf u eb (bnd ma fun x => ret (g x)) := fun t y t' e => by
  obtain ⟨x, t1, e1, e2⟩ := bnd_inv e
  obtain ⟨rfl, rfl⟩ := ret_inv e2
  obtain ⟨r, h1, h2⟩ := h _ _ _ e1
  exact ⟨r, h1, by rw [h2, hg]⟩
theorem Sk.up {u : M R} {g : α → β} (h : Sk u ea ma) (hg : ∀ x, ea x = eb (g x)) : Sk u eb (bnd ma fun x => ret (g x)) := fun t y t' e => by
  obtain ⟨x, t1, e1, e2⟩ := bnd_inv e
  obtain ⟨rfl, rfl⟩ := ret_inv e2
  obtain ⟨r, h1, h2⟩ := h _ _ _ e1
  exact ⟨r, h1, by rw [h2, hg]⟩
theorem Sk.cast {u : M R} {g : α → Option β} (h : Sk u ea ma) (hg : ∀ x y, g x = some y → ea x = eb y) : Sk u eb (bnd ma fun x => lift (g x)) := fun t y t' e => by
  obtain ⟨x, t1, e1, e2⟩ := bnd_inv e
  obtain ⟨e3, rfl⟩ := lift_inv e2
  obtain ⟨r, h1, h2⟩ := h _ _ _ e1
  exact ⟨r, h1, by rw [h2, hg _ _ e3]⟩
theorem So.up {u : M R} {ml : M (List α)} {g : α → β} (h : So u ea ml) (hg : ∀ x, ea x = eb (g x)) : So u eb (bnd ml fun xs => ret (xs.map g)) := fun t y t' e => by
  obtain ⟨x, t1, e1, e2⟩ := bnd_inv e
  obtain ⟨rfl, rfl⟩ := ret_inv e2
  rw [h _ _ _ e1, List.map_map]
  have : ea = eb ∘ g := funext hg
  rw [this]
/-! ### leaves -/
theorem Sv.var {i : Nat} {x : α} (h : slot ρ i = some (.val (ea x))) : Sv (ev Φ Γ (.var i) ρ) ea (ret x) := fun t y t' e => by
  obtain ⟨rfl, rfl⟩ := ret_inv e
  rw [ev, h]; rfl
theorem Sk.bor {i : Nat} {xs : List α} (h : slot ρ i = some (.bor (xs.map ea))) : Sk (ev Φ Γ (.var i) ρ) (eL ea) (ret xs) := fun t y t' e => by
  obtain ⟨rfl, rfl⟩ := ret_inv e
  exact ⟨_, by rw [ev, h]; rfl, rfl⟩
theorem Sv.cst {d : D} {x : α} (h : d = ea x) : Sv (ev Φ Γ (.cst d) ρ) ea (ret x) := fun t y t' e => by
  obtain ⟨rfl, rfl⟩ := ret_inv e
  rw [ev, h]; rfl
theorem Sv.glob {g : Str} {x : α} (h : Γ g = some (ea x)) : Sv (ev Φ Γ (.glob g) ρ) ea (ret x) := fun t y t' e => by
  obtain ⟨rfl, rfl⟩ := ret_inv e
  rw [ev, h]; rfl
/-! ### operators -/
theorem Sv.op {o : BOp} {a b : T} {g : α → β → Option γ} (h : ∀ x y z, g x y = some z → bop o (ea x) (eb y) = some (.val (ec z))) (ha : Sk (ev Φ Γ a ρ) ea ma) (hb : Sk (ev Φ Γ b ρ) eb mb) : Sv (ev Φ Γ (.bin o a b) ρ) ec (bnd ma fun x => bnd mb fun y => lift (g x y)) := fun t z t' e => by
  obtain ⟨x, t1, e1, e⟩ := bnd_inv e
  obtain ⟨y, t2, e2, e⟩ := bnd_inv e
  obtain ⟨e3, rfl⟩ := lift_inv e
  obtain ⟨r1, h1, k1⟩ := ha _ _ _ e1
  obtain ⟨r2, h2, k2⟩ := hb _ _ _ e2
  rw [ev, bnd_at h1, bnd_at h2, k1, k2, h _ _ _ e3]; rfl
theorem Sv.opp {o : BOp} {a b : T} {g : α → β → γ} (h : ∀ x y, bop o (ea x) (eb y) = some (.val (ec (g x y)))) (ha : Sk (ev Φ Γ a ρ) ea ma) (hb : Sk (ev Φ Γ b ρ) eb mb) : Sv (ev Φ Γ (.bin o a b) ρ) ec (bnd ma fun x => bnd mb fun y => ret (g x y)) := fun t z t' e => by
  obtain ⟨x, t1, e1, e⟩ := bnd_inv e
  obtain ⟨y, t2, e2, e⟩ := bnd_inv e
  obtain ⟨rfl, rfl⟩ := ret_inv e
  obtain ⟨r1, h1, k1⟩ := ha _ _ _ e1
  obtain ⟨r2, h2, k2⟩ := hb _ _ _ e2
  rw [ev, bnd_at h1, bnd_at h2, k1, k2, h]; rfl
theorem So.op {o : BOp} {a b : T} {g : α → β → Option (List γ)} (h : ∀ x y z, g x y = some z → bop o (ea x) (eb y) = some (.own (z.map ec))) (ha : Sk (ev Φ Γ a ρ) ea ma) (hb : Sk (ev Φ Γ b ρ) eb mb) : So (ev Φ Γ (.bin o a b) ρ) ec (bnd ma fun x => bnd mb fun y => lift (g x y)) := fun t z t' e => by
  obtain ⟨x, t1, e1, e⟩ := bnd_inv e
  obtain ⟨y, t2, e2, e⟩ := bnd_inv e
  obtain ⟨e3, rfl⟩ := lift_inv e
  obtain ⟨r1, h1, k1⟩ := ha _ _ _ e1
  obtain ⟨r2, h2, k2⟩ := hb _ _ _ e2
  rw [ev, bnd_at h1, bnd_at h2, k1, k2, h _ _ _ e3]; rfl
theorem Sv.cmp {o : COp} {a b : T} {g : α → β → Bool} (h : ∀ x y, cop o (ea x) (eb y) = some (g x y)) (ha : Sk (ev Φ Γ a ρ) ea ma) (hb : Sk (ev Φ Γ b ρ) eb mb) : Sv (ev Φ Γ (.cmp o a b) ρ) eB (bnd ma fun x => bnd mb fun y => ret (g x y)) := fun t z t' e => by
  obtain ⟨x, t1, e1, e⟩ := bnd_inv e
  obtain ⟨y, t2, e2, e⟩ := bnd_inv e
  obtain ⟨rfl, rfl⟩ := ret_inv e
  obtain ⟨r1, h1, k1⟩ := ha _ _ _ e1
  obtain ⟨r2, h2, k2⟩ := hb _ _ _ e2
  rw [ev, bnd_at h1, bnd_at h2, k1, k2, h]; rfl
theorem Sv.cmp2 {o o' : COp} {a b c : T} {g : α → β → Bool} {g' : β → γ → Bool} (h : ∀ x y, cop o (ea x) (eb y) = some (g x y)) (h' : ∀ x y, cop o' (eb x) (ec y) = some (g' x y)) (ha : Sk (ev Φ Γ a ρ) ea ma) (hb : Sk (ev Φ Γ b ρ) eb mb) (hc : Sk (ev Φ Γ c ρ) ec mc) :
    Sv (ev Φ Γ (.cmp2 o o' a b c) ρ) eB (bnd ma fun x => bnd mb fun y => if g x y then bnd mc fun z => ret (g' y z) else ret false) := fun t z t' e => by
  obtain ⟨x, t1, e1, e⟩ := bnd_inv e
  obtain ⟨y, t2, e2, e⟩ := bnd_inv e
  obtain ⟨r1, h1, k1⟩ := ha _ _ _ e1
  obtain ⟨r2, h2, k2⟩ := hb _ _ _ e2
  rw [ev, bnd_at h1, bnd_at h2, k1, k2, h]
  cases hg : g x y with
  | true =>
    rw [hg] at e
    simp only [if_true] at e
    obtain ⟨z, t3, e3, e⟩ := bnd_inv e
    obtain ⟨rfl, rfl⟩ := ret_inv e
    obtain ⟨r3, h3, k3⟩ := hc _ _ _ e3
    rw [bnd_lift_some]
    show bnd (ev Φ Γ c ρ) _ _ = _
    rw [bnd_at h3, k3, h']; rfl
  | false =>
    rw [hg] at e
    simp only [Bool.false_eq_true, if_false] at e
    obtain ⟨rfl, rfl⟩ := ret_inv e
    rfl
theorem Sv.neg {a : T} {mi : M Int} (ha : Sv (ev Φ Γ a ρ) eI mi) : Sv (ev Φ Γ (.neg a) ρ) eI (bnd mi fun x => ret (-x)) := fun t z t' e => by
  obtain ⟨x, t1, e1, e⟩ := bnd_inv e
  obtain ⟨rfl, rfl⟩ := ret_inv e
  rw [ev, bnd_at (ha _ _ _ e1)]; rfl
theorem Sv.not {a : T} {m1 : M Bool} (ha : Sv (ev Φ Γ a ρ) eB m1) : Sv (ev Φ Γ (.not a) ρ) eB (bnd m1 fun x => ret (!x)) := fun t z t' e => by
  obtain ⟨x, t1, e1, e⟩ := bnd_inv e
  obtain ⟨rfl, rfl⟩ := ret_inv e
  rw [ev, bnd_at (ha _ _ _ e1)]; rfl
theorem Sv.and {a b : T} {m1 m2 : M Bool} (ha : Sv (ev Φ Γ a ρ) eB m1) (hb : Sv (ev Φ Γ b ρ) eB m2) : Sv (ev Φ Γ (.and a b) ρ) eB (bnd m1 fun c => if c then m2 else ret false) := fun t z t' e => by
  obtain ⟨x, t1, e1, e⟩ := bnd_inv e
  rw [ev, bnd_at (ha _ _ _ e1)]
  cases x with
  | true => exact hb _ _ _ e
  | false => obtain ⟨rfl, rfl⟩ := ret_inv e; rfl
theorem Sv.or {a b : T} {m1 m2 : M Bool} (ha : Sv (ev Φ Γ a ρ) eB m1) (hb : Sv (ev Φ Γ b ρ) eB m2) : Sv (ev Φ Γ (.or a b) ρ) eB (bnd m1 fun c => if c then ret true else m2) := fun t z t' e => by
  obtain ⟨x, t1, e1, e⟩ := bnd_inv e
  rw [ev, bnd_at (ha _ _ _ e1)]
  cases x with
  | false => exact hb _ _ _ e
  | true => obtain ⟨rfl, rfl⟩ := ret_inv e; rfl
theorem Sv.ite {c a b : T} {m1 : M Bool} {m2 m3 : M α} (hc : Sv (ev Φ Γ c ρ) eB m1) (ha : Sv (ev Φ Γ a ρ) ea m2) (hb : Sv (ev Φ Γ b ρ) ea m3) : Sv (ev Φ Γ (.ite c a b) ρ) ea (bnd m1 fun c => if c then m2 else m3) := fun t z t' e => by
  obtain ⟨x, t1, e1, e⟩ := bnd_inv e
  rw [ev, bnd_at (hc _ _ _ e1)]
  cases x with
  | true => exact ha _ _ _ e
  | false => exact hb _ _ _ e
theorem So.ite {c a b : T} {m1 : M Bool} {m2 m3 : M (List α)} (hc : Sv (ev Φ Γ c ρ) eB m1) (ha : So (ev Φ Γ a ρ) ea m2) (hb : So (ev Φ Γ b ρ) ea m3) : So (ev Φ Γ (.ite c a b) ρ) ea (bnd m1 fun c => if c then m2 else m3) := fun t z t' e => by
  obtain ⟨x, t1, e1, e⟩ := bnd_inv e
  rw [ev, bnd_at (hc _ _ _ e1)]
  cases x with
  | true => exact ha _ _ _ e
  | false => exact hb _ _ _ e
theorem Sf.ite {c a b : T} {m1 : M Bool} {m2 m3 : M α} (hc : Sv (ev Φ Γ c ρ) eB m1) (ha : Sf (ev Φ Γ a ρ) ea m2) (hb : Sf (ev Φ Γ b ρ) ea m3) : Sf (ev Φ Γ (.ite c a b) ρ) ea (bnd m1 fun c => if c then m2 else m3) := fun t z t' e => by
  obtain ⟨x, t1, e1, e⟩ := bnd_inv e
  rw [ev, bnd_at (hc _ _ _ e1)]
  cases x with
  | true => exact ha _ _ _ e
  | false => exact hb _ _ _ e
theorem Sv.sub {a b : T} {g : α → β → Option γ} (h : ∀ x y z, g x y = some z → subD (ea x) (eb y) = some (ec z)) (ha : Sk (ev Φ Γ a ρ) ea ma) (hb : Sk (ev Φ Γ b ρ) eb mb) : Sv (ev Φ Γ (.sub a b) ρ) ec (bnd ma fun x => bnd mb fun y => lift (g x y)) := fun t z t' e => by
  obtain ⟨x, t1, e1, e⟩ := bnd_inv e
  obtain ⟨y, t2, e2, e⟩ := bnd_inv e
  obtain ⟨e3, rfl⟩ := lift_inv e
  obtain ⟨r1, h1, k1⟩ := ha _ _ _ e1
  obtain ⟨r2, h2, k2⟩ := hb _ _ _ e2
  rw [ev, bnd_at h1, bnd_at h2, k1, k2, h _ _ _ e3]; rfl
/-- a[k] of a tuple of known length -/
theorem Sv.fld {a : T} {k : Int} {g : α → γ} (h : ∀ x, subD (ea x) (.int k) = some (ec (g x))) (ha : Sk (ev Φ Γ a ρ) ea ma) : Sv (ev Φ Γ (.sub a (.cst (.int k))) ρ) ec (bnd ma fun x => ret (g x)) := fun t z t' e => by
  obtain ⟨x, t1, e1, e⟩ := bnd_inv e
  obtain ⟨rfl, rfl⟩ := ret_inv e
  obtain ⟨r1, h1, k1⟩ := ha _ _ _ e1
  rw [ev, bnd_at h1, ev, bnd_ret, k1]
  show lift ((subD (ea x) (.int k)).map R.val) _ = _
  rw [h]; rfl
theorem Sv.slf {a b : T} {g : α → Int → γ} {mi : M Int} (h : ∀ x y, slfD (ea x) (.int y) = some (.val (ec (g x y)))) (ha : Sk (ev Φ Γ a ρ) ea ma) (hb : Sk (ev Φ Γ b ρ) eI mi) : Sv (ev Φ Γ (.slf a b) ρ) ec (bnd ma fun x => bnd mi fun y => ret (g x y)) := fun t z t' e => by
  obtain ⟨x, t1, e1, e⟩ := bnd_inv e
  obtain ⟨y, t2, e2, e⟩ := bnd_inv e
  obtain ⟨rfl, rfl⟩ := ret_inv e
  obtain ⟨r1, h1, k1⟩ := ha _ _ _ e1
  obtain ⟨r2, h2, k2⟩ := hb _ _ _ e2
  rw [ev, bnd_at h1, bnd_at h2, k1, k2]
  show lift (slfD (ea x) (.int y)) _ = _
  rw [h]; rfl
theorem Sv.slt {a b : T} {g : α → Int → γ} {mi : M Int} (h : ∀ x y, sltD (ea x) (.int y) = some (.val (ec (g x y)))) (ha : Sk (ev Φ Γ a ρ) ea ma) (hb : Sk (ev Φ Γ b ρ) eI mi) : Sv (ev Φ Γ (.slt a b) ρ) ec (bnd ma fun x => bnd mi fun y => ret (g x y)) := fun t z t' e => by
  obtain ⟨x, t1, e1, e⟩ := bnd_inv e
  obtain ⟨y, t2, e2, e⟩ := bnd_inv e
  obtain ⟨rfl, rfl⟩ := ret_inv e
  obtain ⟨r1, h1, k1⟩ := ha _ _ _ e1
  obtain ⟨r2, h2, k2⟩ := hb _ _ _ e2
  rw [ev, bnd_at h1, bnd_at h2, k1, k2]
  show lift (sltD (ea x) (.int y)) _ = _
  rw [h]; rfl
theorem So.slf {a b : T} {mi : M Int} {ml : M (List α)} (ha : Sk (ev Φ Γ a ρ) (eL ea) ml) (hb : Sk (ev Φ Γ b ρ) eI mi) : So (ev Φ Γ (.slf a b) ρ) ea (bnd ml fun x => bnd mi fun y => ret (cutF x y)) := fun t z t' e => by
  obtain ⟨x, t1, e1, e⟩ := bnd_inv e
  obtain ⟨y, t2, e2, e⟩ := bnd_inv e
  obtain ⟨rfl, rfl⟩ := ret_inv e
  obtain ⟨r1, h1, k1⟩ := ha _ _ _ e1
  obtain ⟨r2, h2, k2⟩ := hb _ _ _ e2
  rw [ev, bnd_at h1, bnd_at h2, k1, k2]
  show some (R.own (cutF (x.map ea) y), _) = some (R.own ((cutF x y).map ea), _)
  unfold cutF
  split <;> simp [List.map_drop]
theorem So.slt {a b : T} {mi : M Int} {ml : M (List α)} (ha : Sk (ev Φ Γ a ρ) (eL ea) ml) (hb : Sk (ev Φ Γ b ρ) eI mi) : So (ev Φ Γ (.slt a b) ρ) ea (bnd ml fun x => bnd mi fun y => ret (cutT x y)) := fun t z t' e => by
  obtain ⟨x, t1, e1, e⟩ := bnd_inv e
  obtain ⟨y, t2, e2, e⟩ := bnd_inv e
  obtain ⟨rfl, rfl⟩ := ret_inv e
  obtain ⟨r1, h1, k1⟩ := ha _ _ _ e1
  obtain ⟨r2, h2, k2⟩ := hb _ _ _ e2
  rw [ev, bnd_at h1, bnd_at h2, k1, k2]
  show some (R.own (cutT (x.map ea) y), _) = some (R.own ((cutT x y).map ea), _)
  unfold cutT
  split <;> simp [List.map_take]
theorem So.rev {a : T} {ml : M (List α)} (ha : Sk (ev Φ Γ a ρ) (eL ea) ml) : So (ev Φ Γ (.rev a) ρ) ea (bnd ml fun x => ret x.reverse) := fun t z t' e => by
  obtain ⟨x, t1, e1, e⟩ := bnd_inv e
  obtain ⟨rfl, rfl⟩ := ret_inv e
  obtain ⟨r1, h1, k1⟩ := ha _ _ _ e1
  rw [ev, bnd_at h1, k1]
  show some (R.own (x.map ea).reverse, _) = some (R.own (x.reverse.map ea), _)
  rw [List.map_reverse]
/-! ### rows of expressions -/
def As {α : Type} (u : M (List R)) (e : Enc α) (m : M (List α)) : Prop := ∀ t xs t', m t = some (xs, t') → ∃ rs, u t = some (rs, t') ∧ fixes rs = some (xs.map e)
theorem As.nil : As (evs Φ Γ .nil ρ) ea (ret []) := fun t y t' e => by
  obtain ⟨rfl, rfl⟩ := ret_inv e
  exact ⟨[], by rw [evs]; rfl, rfl⟩
theorem As.cons {a : T} {es : Ts} {ms : M (List α)} (ha : Sf (ev Φ Γ a ρ) ea ma) (hs : As (evs Φ Γ es ρ) ea ms) : As (evs Φ Γ (.cons a es) ρ) ea (bnd ma fun x => bnd ms fun xs => ret (x :: xs)) := fun t z t' e => by
  obtain ⟨x, t1, e1, e⟩ := bnd_inv e
  obtain ⟨y, t2, e2, e⟩ := bnd_inv e
  obtain ⟨rfl, rfl⟩ := ret_inv e
  obtain ⟨r1, h1, k1⟩ := ha _ _ _ e1
  obtain ⟨rs, h2, k2⟩ := hs _ _ _ e2
  refine ⟨r1 :: rs, by rw [evs, bnd_at h1, bnd_at h2]; rfl, ?_⟩
  unfold fixes
  rw [k1, k2]
  rfl
theorem fixes_vals : ∀ (ds : List D) (rs : List R) (es : List D), fixes rs = some es → fixes (ds.map R.val ++ rs) = some (ds ++ es)
  | [], _, _, h => h
  | d :: ds, rs, es, h => by
    show fixes (R.val d :: (ds.map R.val ++ rs)) = _
    unfold fixes
    rw [fixes_vals ds rs es h]
    rfl
theorem As.starT {a : T} {es : Ts} {ml ms : M (List α)} (ha : Sk (ev Φ Γ a ρ) (eT ea) ml) (hs : As (evs Φ Γ es ρ) ea ms) : As (evs Φ Γ (.star a es) ρ) ea (bnd ml fun x => bnd ms fun xs => ret (x ++ xs)) := fun t z t' e => by
  obtain ⟨x, t1, e1, e⟩ := bnd_inv e
  obtain ⟨y, t2, e2, e⟩ := bnd_inv e
  obtain ⟨rfl, rfl⟩ := ret_inv e
  obtain ⟨r1, h1, k1⟩ := ha _ _ _ e1
  obtain ⟨rs, h2, k2⟩ := hs _ _ _ e2
  refine ⟨(x.map ea).map R.val ++ rs, by rw [evs, bnd_at h1, k1]; show bnd (lift (some (x.map ea))) _ _ = _; rw [bnd_lift_some, bnd_at h2]; rfl, ?_⟩
  rw [fixes_vals _ _ _ k2, List.map_append]
theorem As.starL {a : T} {es : Ts} {ml ms : M (List α)} (ha : Sk (ev Φ Γ a ρ) (eL ea) ml) (hs : As (evs Φ Γ es ρ) ea ms) : As (evs Φ Γ (.star a es) ρ) ea (bnd ml fun x => bnd ms fun xs => ret (x ++ xs)) := fun t z t' e => by
  obtain ⟨x, t1, e1, e⟩ := bnd_inv e
  obtain ⟨y, t2, e2, e⟩ := bnd_inv e
  obtain ⟨rfl, rfl⟩ := ret_inv e
  obtain ⟨r1, h1, k1⟩ := ha _ _ _ e1
  obtain ⟨rs, h2, k2⟩ := hs _ _ _ e2
  refine ⟨(x.map ea).map R.val ++ rs, by rw [evs, bnd_at h1, k1]; show bnd (lift (some (x.map ea))) _ _ = _; rw [bnd_lift_some, bnd_at h2]; rfl, ?_⟩
  rw [fixes_vals _ _ _ k2, List.map_append]
def fitT {α : Type} (xs : List α) : Option (List α) := if xs.length ≤ big then some xs else none
theorem fitT_some {xs z : List α} (h : fitT xs = some z) : z = xs ∧ xs.length ≤ big := by
  unfold fitT at h
  split at h
  · rename_i hl
    cases h
    exact ⟨rfl, hl⟩
  · cases h
theorem Sv.tupL {es : Ts} {ms : M (List α)} (hs : As (evs Φ Γ es ρ) ea ms) : Sv (ev Φ Γ (.tup es) ρ) (eT ea) (bnd ms fun xs => lift (fitT xs)) := fun t z t' e => by
  obtain ⟨x, t1, e1, e⟩ := bnd_inv e
  obtain ⟨e3, rfl⟩ := lift_inv e
  obtain ⟨rs, h1, k1⟩ := hs _ _ _ e1
  obtain ⟨rfl, hl⟩ := fitT_some e3
  rw [ev, bnd_at h1, k1]
  show lift (if (List.map ea _).length ≤ big then _ else _) _ = _
  rw [List.length_map, if_pos hl]
  rfl
theorem So.lst {es : Ts} {ms : M (List α)} (hs : As (evs Φ Γ es ρ) ea ms) : So (ev Φ Γ (.lst es) ρ) ea (bnd ms fun xs => lift (fitT xs)) := fun t z t' e => by
  obtain ⟨x, t1, e1, e⟩ := bnd_inv e
  obtain ⟨e3, rfl⟩ := lift_inv e
  obtain ⟨rs, h1, k1⟩ := hs _ _ _ e1
  obtain ⟨rfl, hl⟩ := fitT_some e3
  rw [ev, bnd_at h1, k1]
  show lift (if (List.map ea _).length ≤ big then _ else _) _ = _
  rw [List.length_map, if_pos hl]
  rfl
theorem Sv.tup2 {a b : T} (ha : Sf (ev Φ Γ a ρ) ea ma) (hb : Sf (ev Φ Γ b ρ) eb mb) : Sv (ev Φ Γ (.tup (.cons a (.cons b .nil))) ρ) (eP ea eb) (bnd ma fun x => bnd mb fun y => ret (x, y)) := fun t z t' e => by
  obtain ⟨x, t1, e1, e⟩ := bnd_inv e
  obtain ⟨y, t2, e2, e⟩ := bnd_inv e
  obtain ⟨rfl, rfl⟩ := ret_inv e
  obtain ⟨r1, h1, k1⟩ := ha _ _ _ e1
  obtain ⟨r2, h2, k2⟩ := hb _ _ _ e2
  rw [ev, evs, evs, evs]
  simp only [bnd, h1, h2, ret, fixes, k1, k2]
  rfl
theorem Sv.tup3 {a b c : T} (ha : Sf (ev Φ Γ a ρ) ea ma) (hb : Sf (ev Φ Γ b ρ) eb mb) (hc : Sf (ev Φ Γ c ρ) ec mc) : Sv (ev Φ Γ (.tup (.cons a (.cons b (.cons c .nil)))) ρ) (e3 ea eb ec) (bnd ma fun x => bnd mb fun y => bnd mc fun z => ret (x, y, z)) := fun t z t' e => by
  obtain ⟨x, t1, e1, e⟩ := bnd_inv e
  obtain ⟨y, t2, e2, e⟩ := bnd_inv e
  obtain ⟨z, t3, e3', e⟩ := bnd_inv e
  obtain ⟨rfl, rfl⟩ := ret_inv e
  obtain ⟨r1, h1, k1⟩ := ha _ _ _ e1
  obtain ⟨r2, h2, k2⟩ := hb _ _ _ e2
  obtain ⟨r3, h3, k3⟩ := hc _ _ _ e3'
  rw [ev, evs, evs, evs, evs]
  simp only [bnd, h1, h2, h3, ret, fixes, k1, k2, k3]
  rfl
/-- a displayed dict with written keys -/
def eDc (e : Enc α) : Enc (List (Tx × α)) := fun kvs => .dict (kvs.map fun p => (.str p.1.1, e p.2))
theorem dctD_map (e : Enc α) : ∀ (ks : List Tx) (xs : List α), ks.length = xs.length → dctD (ks.map (·.1)) (xs.map e) = some ((ks.zip xs).map fun p => (.str p.1.1, e p.2))
  | [], [], _ => rfl
  | k :: ks, x :: xs, h => by
    show ((dctD (ks.map (·.1)) (xs.map e)).map fun r => (PyData.str k.1, e x) :: r) = _
    rw [dctD_map e ks xs (by simpa using h)]
    rfl
theorem Sv.dct {ks : List Str} {vs : List Tx} {es : Ts} {ms : M (List α)} (hk : ks = vs.map (·.1)) (hz : vs.length ≤ 15) (hl : ∀ t xs t', ms t = some (xs, t') → vs.length = xs.length) (hs : As (evs Φ Γ es ρ) ea ms) : Sv (ev Φ Γ (.dct ks es) ρ) (eDc ea) (bnd ms fun xs => ret (vs.zip xs)) := fun t z t' e => by
  obtain ⟨x, t1, e1, e⟩ := bnd_inv e
  obtain ⟨rfl, rfl⟩ := ret_inv e
  obtain ⟨rs, h1, k1⟩ := hs _ _ _ e1
  rw [ev, bnd_at h1, k1, hk]
  show lift ((dctD (vs.map (·.1)) (x.map ea)).bind _) _ = _
  rw [dctD_map _ _ _ (hl _ _ _ e1)]
  show lift (if _ then _ else _) _ = _
  rw [if_pos (by rw [List.length_map, List.length_zip]; omega)]
  rfl
/-! ### built-ins -/

theorem Sv.bi1 {k : Bi} {a : T} {g : α → Option δ} (h : ∀ x z, g x = some z → biD k [ea x] = some (.val (ed z))) (ha : Sk (ev Φ Γ a ρ) ea ma) : Sv (ev Φ Γ (.bi k (.cons a .nil)) ρ) ed (bnd ma fun x => lift (g x)) := fun t z t' e => by
  obtain ⟨x0, t0, q0, e⟩ := bnd_inv e
  obtain ⟨eg, rfl⟩ := lift_inv e
  obtain ⟨r0, h0, k0⟩ := ha _ _ _ q0
  rw [ev, evs, evs]
  simp only [bnd, h0, ret, List.map, k0]
  rw [h _ _ eg]
  rfl
theorem So.bi1 {k : Bi} {a : T} {g : α → Option (List δ)} (h : ∀ x z, g x = some z → biD k [ea x] = some (.own (z.map ed))) (ha : Sk (ev Φ Γ a ρ) ea ma) : So (ev Φ Γ (.bi k (.cons a .nil)) ρ) ed (bnd ma fun x => lift (g x)) := fun t z t' e => by
  obtain ⟨x0, t0, q0, e⟩ := bnd_inv e
  obtain ⟨eg, rfl⟩ := lift_inv e
  obtain ⟨r0, h0, k0⟩ := ha _ _ _ q0
  rw [ev, evs, evs]
  simp only [bnd, h0, ret, List.map, k0]
  rw [h _ _ eg]
  rfl
theorem Sv.bi1p {k : Bi} {a : T} {g : α → δ} (h : ∀ x, biD k [ea x] = some (.val (ed (g x)))) (ha : Sk (ev Φ Γ a ρ) ea ma) : Sv (ev Φ Γ (.bi k (.cons a .nil)) ρ) ed (bnd ma fun x => ret (g x)) := fun t z t' e => by
  obtain ⟨x0, t0, q0, e⟩ := bnd_inv e
  obtain ⟨rfl, rfl⟩ := ret_inv e
  obtain ⟨r0, h0, k0⟩ := ha _ _ _ q0
  rw [ev, evs, evs]
  simp only [bnd, h0, ret, List.map, k0]
  rw [h]
  rfl
theorem Sv.bi2 {k : Bi} {a b : T} {g : α → β → Option δ} (h : ∀ x y z, g x y = some z → biD k [ea x, eb y] = some (.val (ed z))) (ha : Sk (ev Φ Γ a ρ) ea ma) (hb : Sk (ev Φ Γ b ρ) eb mb) : Sv (ev Φ Γ (.bi k (.cons a (.cons b .nil))) ρ) ed (bnd ma fun x => bnd mb fun y => lift (g x y)) := fun t z t' e => by
  obtain ⟨x0, t0, q0, e⟩ := bnd_inv e
  obtain ⟨x1, t1, q1, e⟩ := bnd_inv e
  obtain ⟨eg, rfl⟩ := lift_inv e
  obtain ⟨r0, h0, k0⟩ := ha _ _ _ q0
  obtain ⟨r1, h1, k1⟩ := hb _ _ _ q1
  rw [ev, evs, evs, evs]
  simp only [bnd, h0, h1, ret, List.map, k0, k1]
  rw [h _ _ _ eg]
  rfl
theorem So.bi2 {k : Bi} {a b : T} {g : α → β → Option (List δ)} (h : ∀ x y z, g x y = some z → biD k [ea x, eb y] = some (.own (z.map ed))) (ha : Sk (ev Φ Γ a ρ) ea ma) (hb : Sk (ev Φ Γ b ρ) eb mb) : So (ev Φ Γ (.bi k (.cons a (.cons b .nil))) ρ) ed (bnd ma fun x => bnd mb fun y => lift (g x y)) := fun t z t' e => by
  obtain ⟨x0, t0, q0, e⟩ := bnd_inv e
  obtain ⟨x1, t1, q1, e⟩ := bnd_inv e
  obtain ⟨eg, rfl⟩ := lift_inv e
  obtain ⟨r0, h0, k0⟩ := ha _ _ _ q0
  obtain ⟨r1, h1, k1⟩ := hb _ _ _ q1
  rw [ev, evs, evs, evs]
  simp only [bnd, h0, h1, ret, List.map, k0, k1]
  rw [h _ _ _ eg]
  rfl
theorem Sv.bi2p {k : Bi} {a b : T} {g : α → β → δ} (h : ∀ x y, biD k [ea x, eb y] = some (.val (ed (g x y)))) (ha : Sk (ev Φ Γ a ρ) ea ma) (hb : Sk (ev Φ Γ b ρ) eb mb) : Sv (ev Φ Γ (.bi k (.cons a (.cons b .nil))) ρ) ed (bnd ma fun x => bnd mb fun y => ret (g x y)) := fun t z t' e => by
  obtain ⟨x0, t0, q0, e⟩ := bnd_inv e
  obtain ⟨x1, t1, q1, e⟩ := bnd_inv e
  obtain ⟨rfl, rfl⟩ := ret_inv e
  obtain ⟨r0, h0, k0⟩ := ha _ _ _ q0
  obtain ⟨r1, h1, k1⟩ := hb _ _ _ q1
  rw [ev, evs, evs, evs]
  simp only [bnd, h0, h1, ret, List.map, k0, k1]
  rw [h]
  rfl
theorem Sv.bi3 {k : Bi} {a b c : T} {g : α → β → γ → Option δ} (h : ∀ x y z' z, g x y z' = some z → biD k [ea x, eb y, ec z'] = some (.val (ed z))) (ha : Sk (ev Φ Γ a ρ) ea ma) (hb : Sk (ev Φ Γ b ρ) eb mb) (hc : Sk (ev Φ Γ c ρ) ec mc) : Sv (ev Φ Γ (.bi k (.cons a (.cons b (.cons c .nil)))) ρ) ed (bnd ma fun x => bnd mb fun y => bnd mc fun z => lift (g x y z)) := fun t z t' e => by
  obtain ⟨x0, t0, q0, e⟩ := bnd_inv e
  obtain ⟨x1, t1, q1, e⟩ := bnd_inv e
  obtain ⟨x2, t2, q2, e⟩ := bnd_inv e
  obtain ⟨eg, rfl⟩ := lift_inv e
  obtain ⟨r0, h0, k0⟩ := ha _ _ _ q0
  obtain ⟨r1, h1, k1⟩ := hb _ _ _ q1
  obtain ⟨r2, h2, k2⟩ := hc _ _ _ q2
  rw [ev, evs, evs, evs, evs]
  simp only [bnd, h0, h1, h2, ret, List.map, k0, k1, k2]
  rw [h _ _ _ _ eg]
  rfl
theorem So.bi3 {k : Bi} {a b c : T} {g : α → β → γ → Option (List δ)} (h : ∀ x y z' z, g x y z' = some z → biD k [ea x, eb y, ec z'] = some (.own (z.map ed))) (ha : Sk (ev Φ Γ a ρ) ea ma) (hb : Sk (ev Φ Γ b ρ) eb mb) (hc : Sk (ev Φ Γ c ρ) ec mc) : So (ev Φ Γ (.bi k (.cons a (.cons b (.cons c .nil)))) ρ) ed (bnd ma fun x => bnd mb fun y => bnd mc fun z => lift (g x y z)) := fun t z t' e => by
  obtain ⟨x0, t0, q0, e⟩ := bnd_inv e
  obtain ⟨x1, t1, q1, e⟩ := bnd_inv e
  obtain ⟨x2, t2, q2, e⟩ := bnd_inv e
  obtain ⟨eg, rfl⟩ := lift_inv e
  obtain ⟨r0, h0, k0⟩ := ha _ _ _ q0
  obtain ⟨r1, h1, k1⟩ := hb _ _ _ q1
  obtain ⟨r2, h2, k2⟩ := hc _ _ _ q2
  rw [ev, evs, evs, evs, evs]
  simp only [bnd, h0, h1, h2, ret, List.map, k0, k1, k2]
  rw [h _ _ _ _ eg]
  rfl
theorem Sv.bi3p {k : Bi} {a b c : T} {g : α → β → γ → δ} (h : ∀ x y z, biD k [ea x, eb y, ec z] = some (.val (ed (g x y z)))) (ha : Sk (ev Φ Γ a ρ) ea ma) (hb : Sk (ev Φ Γ b ρ) eb mb) (hc : Sk (ev Φ Γ c ρ) ec mc) : Sv (ev Φ Γ (.bi k (.cons a (.cons b (.cons c .nil)))) ρ) ed (bnd ma fun x => bnd mb fun y => bnd mc fun z => ret (g x y z)) := fun t z t' e => by
  obtain ⟨x0, t0, q0, e⟩ := bnd_inv e
  obtain ⟨x1, t1, q1, e⟩ := bnd_inv e
  obtain ⟨x2, t2, q2, e⟩ := bnd_inv e
  obtain ⟨rfl, rfl⟩ := ret_inv e
  obtain ⟨r0, h0, k0⟩ := ha _ _ _ q0
  obtain ⟨r1, h1, k1⟩ := hb _ _ _ q1
  obtain ⟨r2, h2, k2⟩ := hc _ _ _ q2
  rw [ev, evs, evs, evs, evs]
  simp only [bnd, h0, h1, h2, ret, List.map, k0, k1, k2]
  rw [h]
  rfl
theorem So.bi1p {k : Bi} {a : T} {g : α → List δ} (h : ∀ x, biD k [ea x] = some (.own ((g x).map ed))) (ha : Sk (ev Φ Γ a ρ) ea ma) : So (ev Φ Γ (.bi k (.cons a .nil)) ρ) ed (bnd ma fun x => ret (g x)) := fun t z t' e => by
  obtain ⟨x, t1, e1, e⟩ := bnd_inv e
  obtain ⟨rfl, rfl⟩ := ret_inv e
  obtain ⟨r1, h1, k1⟩ := ha _ _ _ e1
  rw [ev, evs, evs]
  simp only [bnd, h1, ret, List.map, k1]
  rw [h]
  rfl
/-! ### defs -/
/-- a def without the drawing list: what it gives for such arguments -/
def Fv {γ : Type} (Φ : Call) (f : Str) (ds : List D) (W : γ → R) (o : Option γ) : Prop := ∀ y, o = some y → ∃ t', Φ f ds [] = some (W y, t')
/-- a def with the drawing list -/
def Ft {γ : Type} (Φ : Call) (f : Str) (ds : List D) (W : γ → R) (m : M γ) : Prop := ∀ t y t', m t = some (y, t') → Φ f ds t = some (W y, t')
abbrev wv (e : Enc α) : α → R := fun x => .val (e x)
abbrev wo (e : Enc α) : List α → R := fun x => .own (x.map e)
theorem bors_none {e : Enc α} {x : α} {r : R} (h : r.fix = some (e x)) : isBor r = false := by cases r <;> simp [R.fix] at h <;> rfl
theorem atom_after {rs : List R} {d : D} (h : isAtom d = true) : afterCall rs (.val d) = some (.val d) := by unfold afterCall; simp [h]
theorem after_none {rs : List R} {r : R} (h : rs.any isBor = false) : afterCall rs r = some r := by unfold afterCall; rw [h]; rfl

theorem needT_inv {α : Type} {m : M α} {t t' : Tape} {a : α} (h : needT m t = some (a, t')) : t ≠ [] ∧ m t = some (a, t') := by
  cases t with
  | nil => cases h
  | cons x r => exact ⟨by simp, h⟩
theorem needT_at {α : Type} {m : M α} {t : Tape} (h : t ≠ []) : needT m t = m t := by
  cases t with
  | nil => exact absurd rfl h
  | cons x r => rfl
theorem Sv.call0 {f : Str} {g : Option δ} (hf : Fv Φ f [] (wv ed) (g))  : Sv (ev Φ Γ (.call f .nil) ρ) ed (lift (g)) := fun t z t' e => by
  obtain ⟨eg, rfl⟩ := lift_inv e
  obtain ⟨tt, hc⟩ := hf  _ eg
  rw [ev, evs]
  simp only [bnd, ret, List.map]
  rw [hc]
  exact lift_at (after_none (by simp []))
theorem So.call0 {f : Str} {g : Option (List δ)} (hf : Fv Φ f [] (wo ed) (g))  : So (ev Φ Γ (.call f .nil) ρ) ed (lift (g)) := fun t z t' e => by
  obtain ⟨eg, rfl⟩ := lift_inv e
  obtain ⟨tt, hc⟩ := hf  _ eg
  rw [ev, evs]
  simp only [bnd, ret, List.map]
  rw [hc]
  exact lift_at (after_none (by simp []))
theorem Sv.call1 {α0 : Type} {c0 : Enc α0} {m0 : M α0} {a0 : T} {f : Str} {g : α0 → Option δ} (hf : ∀ x0, Fv Φ f [c0 x0] (wv ed) (g x0)) (h0 : Sf (ev Φ Γ a0 ρ) c0 m0) : Sv (ev Φ Γ (.call f (.cons a0 .nil)) ρ) ed (bnd m0 fun x0 => lift (g x0)) := fun t z t' e => by
  obtain ⟨x0, t0, q0, e⟩ := bnd_inv e
  obtain ⟨eg, rfl⟩ := lift_inv e
  obtain ⟨r0, p0, k0⟩ := h0 _ _ _ q0
  obtain ⟨tt, hc⟩ := hf _ _ eg
  rw [ev, evs, evs]
  simp only [bnd, p0, ret, List.map, fix_look k0]
  rw [hc]
  exact lift_at (after_none (by simp [bors_none k0]))
theorem So.call1 {α0 : Type} {c0 : Enc α0} {m0 : M α0} {a0 : T} {f : Str} {g : α0 → Option (List δ)} (hf : ∀ x0, Fv Φ f [c0 x0] (wo ed) (g x0)) (h0 : Sf (ev Φ Γ a0 ρ) c0 m0) : So (ev Φ Γ (.call f (.cons a0 .nil)) ρ) ed (bnd m0 fun x0 => lift (g x0)) := fun t z t' e => by
  obtain ⟨x0, t0, q0, e⟩ := bnd_inv e
  obtain ⟨eg, rfl⟩ := lift_inv e
  obtain ⟨r0, p0, k0⟩ := h0 _ _ _ q0
  obtain ⟨tt, hc⟩ := hf _ _ eg
  rw [ev, evs, evs]
  simp only [bnd, p0, ret, List.map, fix_look k0]
  rw [hc]
  exact lift_at (after_none (by simp [bors_none k0]))
theorem Sv.callk1 {α0 : Type} {c0 : Enc α0} {m0 : M α0} {a0 : T} {f : Str} {g : α0 → Option δ} (hf : ∀ x0, Fv Φ f [c0 x0] (wv ed) (g x0)) (hat : ∀ y, isAtom (ed y) = true) (h0 : Sk (ev Φ Γ a0 ρ) c0 m0) : Sv (ev Φ Γ (.call f (.cons a0 .nil)) ρ) ed (bnd m0 fun x0 => lift (g x0)) := fun t z t' e => by
  obtain ⟨x0, t0, q0, e⟩ := bnd_inv e
  obtain ⟨eg, rfl⟩ := lift_inv e
  obtain ⟨r0, p0, k0⟩ := h0 _ _ _ q0
  obtain ⟨tt, hc⟩ := hf _ _ eg
  rw [ev, evs, evs]
  simp only [bnd, p0, ret, List.map, k0]
  rw [hc]
  exact lift_at (atom_after (hat _))
theorem Sv.call2 {α0 α1 : Type} {c0 : Enc α0} {m0 : M α0} {c1 : Enc α1} {m1 : M α1} {a0 a1 : T} {f : Str} {g : α0 → α1 → Option δ} (hf : ∀ x0 x1, Fv Φ f [c0 x0, c1 x1] (wv ed) (g x0 x1)) (h0 : Sf (ev Φ Γ a0 ρ) c0 m0) (h1 : Sf (ev Φ Γ a1 ρ) c1 m1) : Sv (ev Φ Γ (.call f (.cons a0 (.cons a1 .nil))) ρ) ed (bnd m0 fun x0 => bnd m1 fun x1 => lift (g x0 x1)) := fun t z t' e => by
  obtain ⟨x0, t0, q0, e⟩ := bnd_inv e
  obtain ⟨x1, t1, q1, e⟩ := bnd_inv e
  obtain ⟨eg, rfl⟩ := lift_inv e
  obtain ⟨r0, p0, k0⟩ := h0 _ _ _ q0
  obtain ⟨r1, p1, k1⟩ := h1 _ _ _ q1
  obtain ⟨tt, hc⟩ := hf _ _ _ eg
  rw [ev, evs, evs, evs]
  simp only [bnd, p0, p1, ret, List.map, fix_look k0, fix_look k1]
  rw [hc]
  exact lift_at (after_none (by simp [bors_none k0, bors_none k1]))
theorem So.call2 {α0 α1 : Type} {c0 : Enc α0} {m0 : M α0} {c1 : Enc α1} {m1 : M α1} {a0 a1 : T} {f : Str} {g : α0 → α1 → Option (List δ)} (hf : ∀ x0 x1, Fv Φ f [c0 x0, c1 x1] (wo ed) (g x0 x1)) (h0 : Sf (ev Φ Γ a0 ρ) c0 m0) (h1 : Sf (ev Φ Γ a1 ρ) c1 m1) : So (ev Φ Γ (.call f (.cons a0 (.cons a1 .nil))) ρ) ed (bnd m0 fun x0 => bnd m1 fun x1 => lift (g x0 x1)) := fun t z t' e => by
  obtain ⟨x0, t0, q0, e⟩ := bnd_inv e
  obtain ⟨x1, t1, q1, e⟩ := bnd_inv e
  obtain ⟨eg, rfl⟩ := lift_inv e
  obtain ⟨r0, p0, k0⟩ := h0 _ _ _ q0
  obtain ⟨r1, p1, k1⟩ := h1 _ _ _ q1
  obtain ⟨tt, hc⟩ := hf _ _ _ eg
  rw [ev, evs, evs, evs]
  simp only [bnd, p0, p1, ret, List.map, fix_look k0, fix_look k1]
  rw [hc]
  exact lift_at (after_none (by simp [bors_none k0, bors_none k1]))
theorem Sv.callk2 {α0 α1 : Type} {c0 : Enc α0} {m0 : M α0} {c1 : Enc α1} {m1 : M α1} {a0 a1 : T} {f : Str} {g : α0 → α1 → Option δ} (hf : ∀ x0 x1, Fv Φ f [c0 x0, c1 x1] (wv ed) (g x0 x1)) (hat : ∀ y, isAtom (ed y) = true) (h0 : Sk (ev Φ Γ a0 ρ) c0 m0) (h1 : Sk (ev Φ Γ a1 ρ) c1 m1) : Sv (ev Φ Γ (.call f (.cons a0 (.cons a1 .nil))) ρ) ed (bnd m0 fun x0 => bnd m1 fun x1 => lift (g x0 x1)) := fun t z t' e => by
  obtain ⟨x0, t0, q0, e⟩ := bnd_inv e
  obtain ⟨x1, t1, q1, e⟩ := bnd_inv e
  obtain ⟨eg, rfl⟩ := lift_inv e
  obtain ⟨r0, p0, k0⟩ := h0 _ _ _ q0
  obtain ⟨r1, p1, k1⟩ := h1 _ _ _ q1
  obtain ⟨tt, hc⟩ := hf _ _ _ eg
  rw [ev, evs, evs, evs]
  simp only [bnd, p0, p1, ret, List.map, k0, k1]
  rw [hc]
  exact lift_at (atom_after (hat _))
theorem Sv.call3 {α0 α1 α2 : Type} {c0 : Enc α0} {m0 : M α0} {c1 : Enc α1} {m1 : M α1} {c2 : Enc α2} {m2 : M α2} {a0 a1 a2 : T} {f : Str} {g : α0 → α1 → α2 → Option δ} (hf : ∀ x0 x1 x2, Fv Φ f [c0 x0, c1 x1, c2 x2] (wv ed) (g x0 x1 x2)) (h0 : Sf (ev Φ Γ a0 ρ) c0 m0) (h1 : Sf (ev Φ Γ a1 ρ) c1 m1) (h2 : Sf (ev Φ Γ a2 ρ) c2 m2) : Sv (ev Φ Γ (.call f (.cons a0 (.cons a1 (.cons a2 .nil)))) ρ) ed (bnd m0 fun x0 => bnd m1 fun x1 => bnd m2 fun x2 => lift (g x0 x1 x2)) := fun t z t' e => by
  obtain ⟨x0, t0, q0, e⟩ := bnd_inv e
  obtain ⟨x1, t1, q1, e⟩ := bnd_inv e
  obtain ⟨x2, t2, q2, e⟩ := bnd_inv e
  obtain ⟨eg, rfl⟩ := lift_inv e
  obtain ⟨r0, p0, k0⟩ := h0 _ _ _ q0
  obtain ⟨r1, p1, k1⟩ := h1 _ _ _ q1
  obtain ⟨r2, p2, k2⟩ := h2 _ _ _ q2
  obtain ⟨tt, hc⟩ := hf _ _ _ _ eg
  rw [ev, evs, evs, evs, evs]
  simp only [bnd, p0, p1, p2, ret, List.map, fix_look k0, fix_look k1, fix_look k2]
  rw [hc]
  exact lift_at (after_none (by simp [bors_none k0, bors_none k1, bors_none k2]))
theorem So.call3 {α0 α1 α2 : Type} {c0 : Enc α0} {m0 : M α0} {c1 : Enc α1} {m1 : M α1} {c2 : Enc α2} {m2 : M α2} {a0 a1 a2 : T} {f : Str} {g : α0 → α1 → α2 → Option (List δ)} (hf : ∀ x0 x1 x2, Fv Φ f [c0 x0, c1 x1, c2 x2] (wo ed) (g x0 x1 x2)) (h0 : Sf (ev Φ Γ a0 ρ) c0 m0) (h1 : Sf (ev Φ Γ a1 ρ) c1 m1) (h2 : Sf (ev Φ Γ a2 ρ) c2 m2) : So (ev Φ Γ (.call f (.cons a0 (.cons a1 (.cons a2 .nil)))) ρ) ed (bnd m0 fun x0 => bnd m1 fun x1 => bnd m2 fun x2 => lift (g x0 x1 x2)) := fun t z t' e => by
  obtain ⟨x0, t0, q0, e⟩ := bnd_inv e
  obtain ⟨x1, t1, q1, e⟩ := bnd_inv e
  obtain ⟨x2, t2, q2, e⟩ := bnd_inv e
  obtain ⟨eg, rfl⟩ := lift_inv e
  obtain ⟨r0, p0, k0⟩ := h0 _ _ _ q0
  obtain ⟨r1, p1, k1⟩ := h1 _ _ _ q1
  obtain ⟨r2, p2, k2⟩ := h2 _ _ _ q2
  obtain ⟨tt, hc⟩ := hf _ _ _ _ eg
  rw [ev, evs, evs, evs, evs]
  simp only [bnd, p0, p1, p2, ret, List.map, fix_look k0, fix_look k1, fix_look k2]
  rw [hc]
  exact lift_at (after_none (by simp [bors_none k0, bors_none k1, bors_none k2]))
theorem Sv.callk3 {α0 α1 α2 : Type} {c0 : Enc α0} {m0 : M α0} {c1 : Enc α1} {m1 : M α1} {c2 : Enc α2} {m2 : M α2} {a0 a1 a2 : T} {f : Str} {g : α0 → α1 → α2 → Option δ} (hf : ∀ x0 x1 x2, Fv Φ f [c0 x0, c1 x1, c2 x2] (wv ed) (g x0 x1 x2)) (hat : ∀ y, isAtom (ed y) = true) (h0 : Sk (ev Φ Γ a0 ρ) c0 m0) (h1 : Sk (ev Φ Γ a1 ρ) c1 m1) (h2 : Sk (ev Φ Γ a2 ρ) c2 m2) : Sv (ev Φ Γ (.call f (.cons a0 (.cons a1 (.cons a2 .nil)))) ρ) ed (bnd m0 fun x0 => bnd m1 fun x1 => bnd m2 fun x2 => lift (g x0 x1 x2)) := fun t z t' e => by
  obtain ⟨x0, t0, q0, e⟩ := bnd_inv e
  obtain ⟨x1, t1, q1, e⟩ := bnd_inv e
  obtain ⟨x2, t2, q2, e⟩ := bnd_inv e
  obtain ⟨eg, rfl⟩ := lift_inv e
  obtain ⟨r0, p0, k0⟩ := h0 _ _ _ q0
  obtain ⟨r1, p1, k1⟩ := h1 _ _ _ q1
  obtain ⟨r2, p2, k2⟩ := h2 _ _ _ q2
  obtain ⟨tt, hc⟩ := hf _ _ _ _ eg
  rw [ev, evs, evs, evs, evs]
  simp only [bnd, p0, p1, p2, ret, List.map, k0, k1, k2]
  rw [hc]
  exact lift_at (atom_after (hat _))
theorem Sv.call4 {α0 α1 α2 α3 : Type} {c0 : Enc α0} {m0 : M α0} {c1 : Enc α1} {m1 : M α1} {c2 : Enc α2} {m2 : M α2} {c3 : Enc α3} {m3 : M α3} {a0 a1 a2 a3 : T} {f : Str} {g : α0 → α1 → α2 → α3 → Option δ} (hf : ∀ x0 x1 x2 x3, Fv Φ f [c0 x0, c1 x1, c2 x2, c3 x3] (wv ed) (g x0 x1 x2 x3)) (h0 : Sf (ev Φ Γ a0 ρ) c0 m0) (h1 : Sf (ev Φ Γ a1 ρ) c1 m1) (h2 : Sf (ev Φ Γ a2 ρ) c2 m2) (h3 : Sf (ev Φ Γ a3 ρ) c3 m3) : Sv (ev Φ Γ (.call f (.cons a0 (.cons a1 (.cons a2 (.cons a3 .nil))))) ρ) ed (bnd m0 fun x0 => bnd m1 fun x1 => bnd m2 fun x2 => bnd m3 fun x3 => lift (g x0 x1 x2 x3)) := fun t z t' e => by
  obtain ⟨x0, t0, q0, e⟩ := bnd_inv e
  obtain ⟨x1, t1, q1, e⟩ := bnd_inv e
  obtain ⟨x2, t2, q2, e⟩ := bnd_inv e
  obtain ⟨x3, t3, q3, e⟩ := bnd_inv e
  obtain ⟨eg, rfl⟩ := lift_inv e
  obtain ⟨r0, p0, k0⟩ := h0 _ _ _ q0
  obtain ⟨r1, p1, k1⟩ := h1 _ _ _ q1
  obtain ⟨r2, p2, k2⟩ := h2 _ _ _ q2
  obtain ⟨r3, p3, k3⟩ := h3 _ _ _ q3
  obtain ⟨tt, hc⟩ := hf _ _ _ _ _ eg
  rw [ev, evs, evs, evs, evs, evs]
  simp only [bnd, p0, p1, p2, p3, ret, List.map, fix_look k0, fix_look k1, fix_look k2, fix_look k3]
  rw [hc]
  exact lift_at (after_none (by simp [bors_none k0, bors_none k1, bors_none k2, bors_none k3]))
theorem So.call4 {α0 α1 α2 α3 : Type} {c0 : Enc α0} {m0 : M α0} {c1 : Enc α1} {m1 : M α1} {c2 : Enc α2} {m2 : M α2} {c3 : Enc α3} {m3 : M α3} {a0 a1 a2 a3 : T} {f : Str} {g : α0 → α1 → α2 → α3 → Option (List δ)} (hf : ∀ x0 x1 x2 x3, Fv Φ f [c0 x0, c1 x1, c2 x2, c3 x3] (wo ed) (g x0 x1 x2 x3)) (h0 : Sf (ev Φ Γ a0 ρ) c0 m0) (h1 : Sf (ev Φ Γ a1 ρ) c1 m1) (h2 : Sf (ev Φ Γ a2 ρ) c2 m2) (h3 : Sf (ev Φ Γ a3 ρ) c3 m3) : So (ev Φ Γ (.call f (.cons a0 (.cons a1 (.cons a2 (.cons a3 .nil))))) ρ) ed (bnd m0 fun x0 => bnd m1 fun x1 => bnd m2 fun x2 => bnd m3 fun x3 => lift (g x0 x1 x2 x3)) := fun t z t' e => by
  obtain ⟨x0, t0, q0, e⟩ := bnd_inv e
  obtain ⟨x1, t1, q1, e⟩ := bnd_inv e
  obtain ⟨x2, t2, q2, e⟩ := bnd_inv e
  obtain ⟨x3, t3, q3, e⟩ := bnd_inv e
  obtain ⟨eg, rfl⟩ := lift_inv e
  obtain ⟨r0, p0, k0⟩ := h0 _ _ _ q0
  obtain ⟨r1, p1, k1⟩ := h1 _ _ _ q1
  obtain ⟨r2, p2, k2⟩ := h2 _ _ _ q2
  obtain ⟨r3, p3, k3⟩ := h3 _ _ _ q3
  obtain ⟨tt, hc⟩ := hf _ _ _ _ _ eg
  rw [ev, evs, evs, evs, evs, evs]
  simp only [bnd, p0, p1, p2, p3, ret, List.map, fix_look k0, fix_look k1, fix_look k2, fix_look k3]
  rw [hc]
  exact lift_at (after_none (by simp [bors_none k0, bors_none k1, bors_none k2, bors_none k3]))
theorem Sv.callk4 {α0 α1 α2 α3 : Type} {c0 : Enc α0} {m0 : M α0} {c1 : Enc α1} {m1 : M α1} {c2 : Enc α2} {m2 : M α2} {c3 : Enc α3} {m3 : M α3} {a0 a1 a2 a3 : T} {f : Str} {g : α0 → α1 → α2 → α3 → Option δ} (hf : ∀ x0 x1 x2 x3, Fv Φ f [c0 x0, c1 x1, c2 x2, c3 x3] (wv ed) (g x0 x1 x2 x3)) (hat : ∀ y, isAtom (ed y) = true) (h0 : Sk (ev Φ Γ a0 ρ) c0 m0) (h1 : Sk (ev Φ Γ a1 ρ) c1 m1) (h2 : Sk (ev Φ Γ a2 ρ) c2 m2) (h3 : Sk (ev Φ Γ a3 ρ) c3 m3) : Sv (ev Φ Γ (.call f (.cons a0 (.cons a1 (.cons a2 (.cons a3 .nil))))) ρ) ed (bnd m0 fun x0 => bnd m1 fun x1 => bnd m2 fun x2 => bnd m3 fun x3 => lift (g x0 x1 x2 x3)) := fun t z t' e => by
  obtain ⟨x0, t0, q0, e⟩ := bnd_inv e
  obtain ⟨x1, t1, q1, e⟩ := bnd_inv e
  obtain ⟨x2, t2, q2, e⟩ := bnd_inv e
  obtain ⟨x3, t3, q3, e⟩ := bnd_inv e
  obtain ⟨eg, rfl⟩ := lift_inv e
  obtain ⟨r0, p0, k0⟩ := h0 _ _ _ q0
  obtain ⟨r1, p1, k1⟩ := h1 _ _ _ q1
  obtain ⟨r2, p2, k2⟩ := h2 _ _ _ q2
  obtain ⟨r3, p3, k3⟩ := h3 _ _ _ q3
  obtain ⟨tt, hc⟩ := hf _ _ _ _ _ eg
  rw [ev, evs, evs, evs, evs, evs]
  simp only [bnd, p0, p1, p2, p3, ret, List.map, k0, k1, k2, k3]
  rw [hc]
  exact lift_at (atom_after (hat _))
theorem Sv.call5 {α0 α1 α2 α3 α4 : Type} {c0 : Enc α0} {m0 : M α0} {c1 : Enc α1} {m1 : M α1} {c2 : Enc α2} {m2 : M α2} {c3 : Enc α3} {m3 : M α3} {c4 : Enc α4} {m4 : M α4} {a0 a1 a2 a3 a4 : T} {f : Str} {g : α0 → α1 → α2 → α3 → α4 → Option δ} (hf : ∀ x0 x1 x2 x3 x4, Fv Φ f [c0 x0, c1 x1, c2 x2, c3 x3, c4 x4] (wv ed) (g x0 x1 x2 x3 x4)) (h0 : Sf (ev Φ Γ a0 ρ) c0 m0) (h1 : Sf (ev Φ Γ a1 ρ) c1 m1) (h2 : Sf (ev Φ Γ a2 ρ) c2 m2) (h3 : Sf (ev Φ Γ a3 ρ) c3 m3) (h4 : Sf (ev Φ Γ a4 ρ) c4 m4) : Sv (ev Φ Γ (.call f (.cons a0 (.cons a1 (.cons a2 (.cons a3 (.cons a4 .nil)))))) ρ) ed (bnd m0 fun x0 => bnd m1 fun x1 => bnd m2 fun x2 => bnd m3 fun x3 => bnd m4 fun x4 => lift (g x0 x1 x2 x3 x4)) := fun t z t' e => by
  obtain ⟨x0, t0, q0, e⟩ := bnd_inv e
  obtain ⟨x1, t1, q1, e⟩ := bnd_inv e
  obtain ⟨x2, t2, q2, e⟩ := bnd_inv e
  obtain ⟨x3, t3, q3, e⟩ := bnd_inv e
  obtain ⟨x4, t4, q4, e⟩ := bnd_inv e
  obtain ⟨eg, rfl⟩ := lift_inv e
  obtain ⟨r0, p0, k0⟩ := h0 _ _ _ q0
  obtain ⟨r1, p1, k1⟩ := h1 _ _ _ q1
  obtain ⟨r2, p2, k2⟩ := h2 _ _ _ q2
  obtain ⟨r3, p3, k3⟩ := h3 _ _ _ q3
  obtain ⟨r4, p4, k4⟩ := h4 _ _ _ q4
  obtain ⟨tt, hc⟩ := hf _ _ _ _ _ _ eg
  rw [ev, evs, evs, evs, evs, evs, evs]
  simp only [bnd, p0, p1, p2, p3, p4, ret, List.map, fix_look k0, fix_look k1, fix_look k2, fix_look k3, fix_look k4]
  rw [hc]
  exact lift_at (after_none (by simp [bors_none k0, bors_none k1, bors_none k2, bors_none k3, bors_none k4]))
theorem So.call5 {α0 α1 α2 α3 α4 : Type} {c0 : Enc α0} {m0 : M α0} {c1 : Enc α1} {m1 : M α1} {c2 : Enc α2} {m2 : M α2} {c3 : Enc α3} {m3 : M α3} {c4 : Enc α4} {m4 : M α4} {a0 a1 a2 a3 a4 : T} {f : Str} {g : α0 → α1 → α2 → α3 → α4 → Option (List δ)} (hf : ∀ x0 x1 x2 x3 x4, Fv Φ f [c0 x0, c1 x1, c2 x2, c3 x3, c4 x4] (wo ed) (g x0 x1 x2 x3 x4)) (h0 : Sf (ev Φ Γ a0 ρ) c0 m0) (h1 : Sf (ev Φ Γ a1 ρ) c1 m1) (h2 : Sf (ev Φ Γ a2 ρ) c2 m2) (h3 : Sf (ev Φ Γ a3 ρ) c3 m3) (h4 : Sf (ev Φ Γ a4 ρ) c4 m4) : So (ev Φ Γ (.call f (.cons a0 (.cons a1 (.cons a2 (.cons a3 (.cons a4 .nil)))))) ρ) ed (bnd m0 fun x0 => bnd m1 fun x1 => bnd m2 fun x2 => bnd m3 fun x3 => bnd m4 fun x4 => lift (g x0 x1 x2 x3 x4)) := fun t z t' e => by
  obtain ⟨x0, t0, q0, e⟩ := bnd_inv e
  obtain ⟨x1, t1, q1, e⟩ := bnd_inv e
  obtain ⟨x2, t2, q2, e⟩ := bnd_inv e
  obtain ⟨x3, t3, q3, e⟩ := bnd_inv e
  obtain ⟨x4, t4, q4, e⟩ := bnd_inv e
  obtain ⟨eg, rfl⟩ := lift_inv e
  obtain ⟨r0, p0, k0⟩ := h0 _ _ _ q0
  obtain ⟨r1, p1, k1⟩ := h1 _ _ _ q1
  obtain ⟨r2, p2, k2⟩ := h2 _ _ _ q2
  obtain ⟨r3, p3, k3⟩ := h3 _ _ _ q3
  obtain ⟨r4, p4, k4⟩ := h4 _ _ _ q4
  obtain ⟨tt, hc⟩ := hf _ _ _ _ _ _ eg
  rw [ev, evs, evs, evs, evs, evs, evs]
  simp only [bnd, p0, p1, p2, p3, p4, ret, List.map, fix_look k0, fix_look k1, fix_look k2, fix_look k3, fix_look k4]
  rw [hc]
  exact lift_at (after_none (by simp [bors_none k0, bors_none k1, bors_none k2, bors_none k3, bors_none k4]))
theorem Sv.callk5 {α0 α1 α2 α3 α4 : Type} {c0 : Enc α0} {m0 : M α0} {c1 : Enc α1} {m1 : M α1} {c2 : Enc α2} {m2 : M α2} {c3 : Enc α3} {m3 : M α3} {c4 : Enc α4} {m4 : M α4} {a0 a1 a2 a3 a4 : T} {f : Str} {g : α0 → α1 → α2 → α3 → α4 → Option δ} (hf : ∀ x0 x1 x2 x3 x4, Fv Φ f [c0 x0, c1 x1, c2 x2, c3 x3, c4 x4] (wv ed) (g x0 x1 x2 x3 x4)) (hat : ∀ y, isAtom (ed y) = true) (h0 : Sk (ev Φ Γ a0 ρ) c0 m0) (h1 : Sk (ev Φ Γ a1 ρ) c1 m1) (h2 : Sk (ev Φ Γ a2 ρ) c2 m2) (h3 : Sk (ev Φ Γ a3 ρ) c3 m3) (h4 : Sk (ev Φ Γ a4 ρ) c4 m4) : Sv (ev Φ Γ (.call f (.cons a0 (.cons a1 (.cons a2 (.cons a3 (.cons a4 .nil)))))) ρ) ed (bnd m0 fun x0 => bnd m1 fun x1 => bnd m2 fun x2 => bnd m3 fun x3 => bnd m4 fun x4 => lift (g x0 x1 x2 x3 x4)) := fun t z t' e => by
  obtain ⟨x0, t0, q0, e⟩ := bnd_inv e
  obtain ⟨x1, t1, q1, e⟩ := bnd_inv e
  obtain ⟨x2, t2, q2, e⟩ := bnd_inv e
  obtain ⟨x3, t3, q3, e⟩ := bnd_inv e
  obtain ⟨x4, t4, q4, e⟩ := bnd_inv e
  obtain ⟨eg, rfl⟩ := lift_inv e
  obtain ⟨r0, p0, k0⟩ := h0 _ _ _ q0
  obtain ⟨r1, p1, k1⟩ := h1 _ _ _ q1
  obtain ⟨r2, p2, k2⟩ := h2 _ _ _ q2
  obtain ⟨r3, p3, k3⟩ := h3 _ _ _ q3
  obtain ⟨r4, p4, k4⟩ := h4 _ _ _ q4
  obtain ⟨tt, hc⟩ := hf _ _ _ _ _ _ eg
  rw [ev, evs, evs, evs, evs, evs, evs]
  simp only [bnd, p0, p1, p2, p3, p4, ret, List.map, k0, k1, k2, k3, k4]
  rw [hc]
  exact lift_at (atom_after (hat _))
theorem Sv.callT0 {f : Str} {g : M δ} (hf : Ft Φ f [] (wv ed) (g))  : Sv (ev Φ Γ (.callT f .nil) ρ) ed (needT (needT (g))) := fun t z t' e => by
  obtain ⟨ht, e⟩ := needT_inv e
  obtain ⟨ht2, e⟩ := needT_inv e
  have hc := hf  _ _ _ e
  rw [ev, needT_at ht, evs]
  simp only [bnd, ret, List.map]
  rw [needT_at ht2, hc]
  show lift (if List.any _ isBor = true then none else some _) _ = _
  rw [if_neg (by simp [])]
  rfl
theorem So.callT0 {f : Str} {g : M (List δ)} (hf : Ft Φ f [] (wo ed) (g))  : So (ev Φ Γ (.callT f .nil) ρ) ed (needT (needT (g))) := fun t z t' e => by
  obtain ⟨ht, e⟩ := needT_inv e
  obtain ⟨ht2, e⟩ := needT_inv e
  have hc := hf  _ _ _ e
  rw [ev, needT_at ht, evs]
  simp only [bnd, ret, List.map]
  rw [needT_at ht2, hc]
  show lift (if List.any _ isBor = true then none else some _) _ = _
  rw [if_neg (by simp [])]
  rfl
theorem Sf.callT0 {f : Str} {g : M δ} (hf : ∀ t y t', g t = some (y, t') → ∃ r, Φ f [] t = some (r, t') ∧ r.fix = some (ed y))  : Sf (ev Φ Γ (.callT f .nil) ρ) ed (needT (needT (g))) := fun t z t' e => by
  obtain ⟨ht, e⟩ := needT_inv e
  obtain ⟨ht2, e⟩ := needT_inv e
  obtain ⟨r, hc, hr⟩ := hf  _ _ _ e
  refine ⟨r, ?_, hr⟩
  rw [ev, needT_at ht, evs]
  simp only [bnd, ret, List.map]
  rw [needT_at ht2, hc]
  show lift (if List.any _ isBor = true then none else some _) _ = _
  rw [if_neg (by simp [])]
  rfl
theorem Sv.callT1 {α0 : Type} {c0 : Enc α0} {m0 : M α0} {a0 : T} {f : Str} {g : α0 → M δ} (hf : ∀ x0, Ft Φ f [c0 x0] (wv ed) (g x0)) (h0 : Sf (ev Φ Γ a0 ρ) c0 m0) : Sv (ev Φ Γ (.callT f (.cons a0 .nil)) ρ) ed (needT (bnd m0 fun x0 => needT (g x0))) := fun t z t' e => by
  obtain ⟨ht, e⟩ := needT_inv e
  obtain ⟨x0, t0, q0, e⟩ := bnd_inv e
  obtain ⟨ht2, e⟩ := needT_inv e
  obtain ⟨r0, p0, k0⟩ := h0 _ _ _ q0
  have hc := hf _ _ _ _ e
  rw [ev, needT_at ht, evs, evs]
  simp only [bnd, p0, ret, List.map, fix_look k0]
  rw [needT_at ht2, hc]
  show lift (if List.any _ isBor = true then none else some _) _ = _
  rw [if_neg (by simp [bors_none k0])]
  rfl
theorem So.callT1 {α0 : Type} {c0 : Enc α0} {m0 : M α0} {a0 : T} {f : Str} {g : α0 → M (List δ)} (hf : ∀ x0, Ft Φ f [c0 x0] (wo ed) (g x0)) (h0 : Sf (ev Φ Γ a0 ρ) c0 m0) : So (ev Φ Γ (.callT f (.cons a0 .nil)) ρ) ed (needT (bnd m0 fun x0 => needT (g x0))) := fun t z t' e => by
  obtain ⟨ht, e⟩ := needT_inv e
  obtain ⟨x0, t0, q0, e⟩ := bnd_inv e
  obtain ⟨ht2, e⟩ := needT_inv e
  obtain ⟨r0, p0, k0⟩ := h0 _ _ _ q0
  have hc := hf _ _ _ _ e
  rw [ev, needT_at ht, evs, evs]
  simp only [bnd, p0, ret, List.map, fix_look k0]
  rw [needT_at ht2, hc]
  show lift (if List.any _ isBor = true then none else some _) _ = _
  rw [if_neg (by simp [bors_none k0])]
  rfl
theorem Sf.callT1 {α0 : Type} {c0 : Enc α0} {m0 : M α0} {a0 : T} {f : Str} {g : α0 → M δ} (hf : ∀ x0, ∀ t y t', g x0 t = some (y, t') → ∃ r, Φ f [c0 x0] t = some (r, t') ∧ r.fix = some (ed y)) (h0 : Sf (ev Φ Γ a0 ρ) c0 m0) : Sf (ev Φ Γ (.callT f (.cons a0 .nil)) ρ) ed (needT (bnd m0 fun x0 => needT (g x0))) := fun t z t' e => by
  obtain ⟨ht, e⟩ := needT_inv e
  obtain ⟨x0, t0, q0, e⟩ := bnd_inv e
  obtain ⟨ht2, e⟩ := needT_inv e
  obtain ⟨r0, p0, k0⟩ := h0 _ _ _ q0
  obtain ⟨r, hc, hr⟩ := hf _ _ _ _ e
  refine ⟨r, ?_, hr⟩
  rw [ev, needT_at ht, evs, evs]
  simp only [bnd, p0, ret, List.map, fix_look k0]
  rw [needT_at ht2, hc]
  show lift (if List.any _ isBor = true then none else some _) _ = _
  rw [if_neg (by simp [bors_none k0])]
  rfl
theorem Sv.callT2 {α0 α1 : Type} {c0 : Enc α0} {m0 : M α0} {c1 : Enc α1} {m1 : M α1} {a0 a1 : T} {f : Str} {g : α0 → α1 → M δ} (hf : ∀ x0 x1, Ft Φ f [c0 x0, c1 x1] (wv ed) (g x0 x1)) (h0 : Sf (ev Φ Γ a0 ρ) c0 m0) (h1 : Sf (ev Φ Γ a1 ρ) c1 m1) : Sv (ev Φ Γ (.callT f (.cons a0 (.cons a1 .nil))) ρ) ed (needT (bnd m0 fun x0 => bnd m1 fun x1 => needT (g x0 x1))) := fun t z t' e => by
  obtain ⟨ht, e⟩ := needT_inv e
  obtain ⟨x0, t0, q0, e⟩ := bnd_inv e
  obtain ⟨x1, t1, q1, e⟩ := bnd_inv e
  obtain ⟨ht2, e⟩ := needT_inv e
  obtain ⟨r0, p0, k0⟩ := h0 _ _ _ q0
  obtain ⟨r1, p1, k1⟩ := h1 _ _ _ q1
  have hc := hf _ _ _ _ _ e
  rw [ev, needT_at ht, evs, evs, evs]
  simp only [bnd, p0, p1, ret, List.map, fix_look k0, fix_look k1]
  rw [needT_at ht2, hc]
  show lift (if List.any _ isBor = true then none else some _) _ = _
  rw [if_neg (by simp [bors_none k0, bors_none k1])]
  rfl
theorem So.callT2 {α0 α1 : Type} {c0 : Enc α0} {m0 : M α0} {c1 : Enc α1} {m1 : M α1} {a0 a1 : T} {f : Str} {g : α0 → α1 → M (List δ)} (hf : ∀ x0 x1, Ft Φ f [c0 x0, c1 x1] (wo ed) (g x0 x1)) (h0 : Sf (ev Φ Γ a0 ρ) c0 m0) (h1 : Sf (ev Φ Γ a1 ρ) c1 m1) : So (ev Φ Γ (.callT f (.cons a0 (.cons a1 .nil))) ρ) ed (needT (bnd m0 fun x0 => bnd m1 fun x1 => needT (g x0 x1))) := fun t z t' e => by
  obtain ⟨ht, e⟩ := needT_inv e
  obtain ⟨x0, t0, q0, e⟩ := bnd_inv e
  obtain ⟨x1, t1, q1, e⟩ := bnd_inv e
  obtain ⟨ht2, e⟩ := needT_inv e
  obtain ⟨r0, p0, k0⟩ := h0 _ _ _ q0
  obtain ⟨r1, p1, k1⟩ := h1 _ _ _ q1
  have hc := hf _ _ _ _ _ e
  rw [ev, needT_at ht, evs, evs, evs]
  simp only [bnd, p0, p1, ret, List.map, fix_look k0, fix_look k1]
  rw [needT_at ht2, hc]
  show lift (if List.any _ isBor = true then none else some _) _ = _
  rw [if_neg (by simp [bors_none k0, bors_none k1])]
  rfl
theorem Sf.callT2 {α0 α1 : Type} {c0 : Enc α0} {m0 : M α0} {c1 : Enc α1} {m1 : M α1} {a0 a1 : T} {f : Str} {g : α0 → α1 → M δ} (hf : ∀ x0 x1, ∀ t y t', g x0 x1 t = some (y, t') → ∃ r, Φ f [c0 x0, c1 x1] t = some (r, t') ∧ r.fix = some (ed y)) (h0 : Sf (ev Φ Γ a0 ρ) c0 m0) (h1 : Sf (ev Φ Γ a1 ρ) c1 m1) : Sf (ev Φ Γ (.callT f (.cons a0 (.cons a1 .nil))) ρ) ed (needT (bnd m0 fun x0 => bnd m1 fun x1 => needT (g x0 x1))) := fun t z t' e => by
  obtain ⟨ht, e⟩ := needT_inv e
  obtain ⟨x0, t0, q0, e⟩ := bnd_inv e
  obtain ⟨x1, t1, q1, e⟩ := bnd_inv e
  obtain ⟨ht2, e⟩ := needT_inv e
  obtain ⟨r0, p0, k0⟩ := h0 _ _ _ q0
  obtain ⟨r1, p1, k1⟩ := h1 _ _ _ q1
  obtain ⟨r, hc, hr⟩ := hf _ _ _ _ _ e
  refine ⟨r, ?_, hr⟩
  rw [ev, needT_at ht, evs, evs, evs]
  simp only [bnd, p0, p1, ret, List.map, fix_look k0, fix_look k1]
  rw [needT_at ht2, hc]
  show lift (if List.any _ isBor = true then none else some _) _ = _
  rw [if_neg (by simp [bors_none k0, bors_none k1])]
  rfl
theorem Sv.callT3 {α0 α1 α2 : Type} {c0 : Enc α0} {m0 : M α0} {c1 : Enc α1} {m1 : M α1} {c2 : Enc α2} {m2 : M α2} {a0 a1 a2 : T} {f : Str} {g : α0 → α1 → α2 → M δ} (hf : ∀ x0 x1 x2, Ft Φ f [c0 x0, c1 x1, c2 x2] (wv ed) (g x0 x1 x2)) (h0 : Sf (ev Φ Γ a0 ρ) c0 m0) (h1 : Sf (ev Φ Γ a1 ρ) c1 m1) (h2 : Sf (ev Φ Γ a2 ρ) c2 m2) : Sv (ev Φ Γ (.callT f (.cons a0 (.cons a1 (.cons a2 .nil)))) ρ) ed (needT (bnd m0 fun x0 => bnd m1 fun x1 => bnd m2 fun x2 => needT (g x0 x1 x2))) := fun t z t' e => by
  obtain ⟨ht, e⟩ := needT_inv e
  obtain ⟨x0, t0, q0, e⟩ := bnd_inv e
  obtain ⟨x1, t1, q1, e⟩ := bnd_inv e
  obtain ⟨x2, t2, q2, e⟩ := bnd_inv e
  obtain ⟨ht2, e⟩ := needT_inv e
  obtain ⟨r0, p0, k0⟩ := h0 _ _ _ q0
  obtain ⟨r1, p1, k1⟩ := h1 _ _ _ q1
  obtain ⟨r2, p2, k2⟩ := h2 _ _ _ q2
  have hc := hf _ _ _ _ _ _ e
  rw [ev, needT_at ht, evs, evs, evs, evs]
  simp only [bnd, p0, p1, p2, ret, List.map, fix_look k0, fix_look k1, fix_look k2]
  rw [needT_at ht2, hc]
  show lift (if List.any _ isBor = true then none else some _) _ = _
  rw [if_neg (by simp [bors_none k0, bors_none k1, bors_none k2])]
  rfl
theorem So.callT3 {α0 α1 α2 : Type} {c0 : Enc α0} {m0 : M α0} {c1 : Enc α1} {m1 : M α1} {c2 : Enc α2} {m2 : M α2} {a0 a1 a2 : T} {f : Str} {g : α0 → α1 → α2 → M (List δ)} (hf : ∀ x0 x1 x2, Ft Φ f [c0 x0, c1 x1, c2 x2] (wo ed) (g x0 x1 x2)) (h0 : Sf (ev Φ Γ a0 ρ) c0 m0) (h1 : Sf (ev Φ Γ a1 ρ) c1 m1) (h2 : Sf (ev Φ Γ a2 ρ) c2 m2) : So (ev Φ Γ (.callT f (.cons a0 (.cons a1 (.cons a2 .nil)))) ρ) ed (needT (bnd m0 fun x0 => bnd m1 fun x1 => bnd m2 fun x2 => needT (g x0 x1 x2))) := fun t z t' e => by
  obtain ⟨ht, e⟩ := needT_inv e
  obtain ⟨x0, t0, q0, e⟩ := bnd_inv e
  obtain ⟨x1, t1, q1, e⟩ := bnd_inv e
  obtain ⟨x2, t2, q2, e⟩ := bnd_inv e
  obtain ⟨ht2, e⟩ := needT_inv e
  obtain ⟨r0, p0, k0⟩ := h0 _ _ _ q0
  obtain ⟨r1, p1, k1⟩ := h1 _ _ _ q1
  obtain ⟨r2, p2, k2⟩ := h2 _ _ _ q2
  have hc := hf _ _ _ _ _ _ e
  rw [ev, needT_at ht, evs, evs, evs, evs]
  simp only [bnd, p0, p1, p2, ret, List.map, fix_look k0, fix_look k1, fix_look k2]
  rw [needT_at ht2, hc]
  show lift (if List.any _ isBor = true then none else some _) _ = _
  rw [if_neg (by simp [bors_none k0, bors_none k1, bors_none k2])]
  rfl
theorem Sf.callT3 {α0 α1 α2 : Type} {c0 : Enc α0} {m0 : M α0} {c1 : Enc α1} {m1 : M α1} {c2 : Enc α2} {m2 : M α2} {a0 a1 a2 : T} {f : Str} {g : α0 → α1 → α2 → M δ} (hf : ∀ x0 x1 x2, ∀ t y t', g x0 x1 x2 t = some (y, t') → ∃ r, Φ f [c0 x0, c1 x1, c2 x2] t = some (r, t') ∧ r.fix = some (ed y)) (h0 : Sf (ev Φ Γ a0 ρ) c0 m0) (h1 : Sf (ev Φ Γ a1 ρ) c1 m1) (h2 : Sf (ev Φ Γ a2 ρ) c2 m2) : Sf (ev Φ Γ (.callT f (.cons a0 (.cons a1 (.cons a2 .nil)))) ρ) ed (needT (bnd m0 fun x0 => bnd m1 fun x1 => bnd m2 fun x2 => needT (g x0 x1 x2))) := fun t z t' e => by
  obtain ⟨ht, e⟩ := needT_inv e
  obtain ⟨x0, t0, q0, e⟩ := bnd_inv e
  obtain ⟨x1, t1, q1, e⟩ := bnd_inv e
  obtain ⟨x2, t2, q2, e⟩ := bnd_inv e
  obtain ⟨ht2, e⟩ := needT_inv e
  obtain ⟨r0, p0, k0⟩ := h0 _ _ _ q0
  obtain ⟨r1, p1, k1⟩ := h1 _ _ _ q1
  obtain ⟨r2, p2, k2⟩ := h2 _ _ _ q2
  obtain ⟨r, hc, hr⟩ := hf _ _ _ _ _ _ e
  refine ⟨r, ?_, hr⟩
  rw [ev, needT_at ht, evs, evs, evs, evs]
  simp only [bnd, p0, p1, p2, ret, List.map, fix_look k0, fix_look k1, fix_look k2]
  rw [needT_at ht2, hc]
  show lift (if List.any _ isBor = true then none else some _) _ = _
  rw [if_neg (by simp [bors_none k0, bors_none k1, bors_none k2])]
  rfl
/-! ### what is walked -/
def It {α : Type} (u : M (List D)) (e : Enc α) (m : M (List α)) : Prop := ∀ t xs t', m t = some (xs, t') → u t = some (xs.map e, t')
theorem It.exT {a : T} {ml : M (List α)} (ha : Sf (ev Φ Γ a ρ) (eT ea) ml) {st : Bool} : It (evi Φ Γ st (.ex a) ρ) ea ml := fun t z t' e => by
  obtain ⟨r, h, k⟩ := ha _ _ _ e
  rw [evi, bnd_at h]
  have e1 : (seen st r).bind iterD = some (z.map ea) := by
    cases st
    · show (some r.look).bind iterD = _
      rw [fix_look k]; rfl
    · show r.fix.bind iterD = _
      rw [k]; rfl
  rw [e1]; rfl
theorem It.exL {a : T} {ml : M (List α)} (ha : Sf (ev Φ Γ a ρ) (eL ea) ml) {st : Bool} : It (evi Φ Γ st (.ex a) ρ) ea ml := fun t z t' e => by
  obtain ⟨r, h, k⟩ := ha _ _ _ e
  rw [evi, bnd_at h]
  have e1 : (seen st r).bind iterD = some (z.map ea) := by
    cases st
    · show (some r.look).bind iterD = _
      rw [fix_look k]; rfl
    · show r.fix.bind iterD = _
      rw [k]; rfl
  rw [e1]; rfl
theorem It.exK {a : T} {ml : M (List α)} (ha : Sk (ev Φ Γ a ρ) (eL ea) ml) : It (evi Φ Γ false (.ex a) ρ) ea ml := fun t z t' e => by
  obtain ⟨r, h, k⟩ := ha _ _ _ e
  rw [evi, bnd_at h]
  show lift ((some r.look).bind iterD) _ = _
  rw [k]; rfl
def rangeT (n : Int) : Option (List Int) := if n.natAbs ≤ big then some ((List.range n.toNat).map Int.ofNat) else none
theorem It.rng {a : T} {mi : M Int} (ha : Sv (ev Φ Γ a ρ) eI mi) {st : Bool} : It (evi Φ Γ st (.rng a) ρ) eI (bnd mi fun n => lift (rangeT n)) := fun t z t' e => by
  obtain ⟨x, t1, e1, e⟩ := bnd_inv e
  obtain ⟨e3, rfl⟩ := lift_inv e
  rw [evi, bnd_at (ha _ _ _ e1)]
  unfold rangeT at e3
  split at e3
  · rename_i hn
    cases e3
    show lift (if x.natAbs ≤ big then _ else _) _ = _
    rw [if_pos hn, List.map_map]
    rfl
  · cases e3
def rangeR (n : Int) : Option (List Int) := if n.natAbs ≤ big then some ((List.range n.toNat).reverse.map Int.ofNat) else none
theorem It.revr {a : T} {mi : M Int} (ha : Sv (ev Φ Γ a ρ) eI mi) {st : Bool} : It (evi Φ Γ st (.revr a) ρ) eI (bnd mi fun n => lift (rangeR n)) := fun t z t' e => by
  obtain ⟨x, t1, e1, e⟩ := bnd_inv e
  obtain ⟨e3, rfl⟩ := lift_inv e
  rw [evi, bnd_at (ha _ _ _ e1)]
  unfold rangeR at e3
  split at e3
  · rename_i hn
    cases e3
    show lift (if x.natAbs ≤ big then _ else _) _ = _
    rw [if_pos hn, List.map_map]
    rfl
  · cases e3
theorem zipD_map : ∀ (xs : List α) (ys : List β), zipD (xs.map ea) (ys.map eb) = (xs.zip ys).map (eP ea eb)
  | [], _ => by simp [zipD]
  | _ :: _, [] => by simp [zipD]
  | x :: xs, y :: ys => by
    show PyData.tuple [ea x, eb y] :: zipD (xs.map ea) (ys.map eb) = _
    rw [zipD_map xs ys]; rfl
theorem seen_fix {st : Bool} {r : R} {d : D} (h : r.fix = some d) : seen st r = some d := by
  cases st
  · show some r.look = _
    rw [fix_look h]
  · exact h
theorem It.zipT {a b : T} {m1 : M (List α)} {m2 : M (List β)} (ha : Sf (ev Φ Γ a ρ) (eT ea) m1) (hb : Sf (ev Φ Γ b ρ) (eT eb) m2) {st : Bool} : It (evi Φ Γ st (.zip a b) ρ) (eP ea eb) (bnd m1 fun x => bnd m2 fun y => ret (x.zip y)) := fun t z t' e => by
  obtain ⟨x, t1, e1, e⟩ := bnd_inv e
  obtain ⟨y, t2, e2, e⟩ := bnd_inv e
  obtain ⟨rfl, rfl⟩ := ret_inv e
  obtain ⟨r1, h1, k1⟩ := ha _ _ _ e1
  obtain ⟨r2, h2, k2⟩ := hb _ _ _ e2
  rw [evi, bnd_at h1, bnd_at h2, seen_fix k1, seen_fix k2, ← zipD_map]
  rfl
theorem It.zipL {a b : T} {m1 : M (List α)} {m2 : M (List β)} (ha : Sf (ev Φ Γ a ρ) (eL ea) m1) (hb : Sf (ev Φ Γ b ρ) (eL eb) m2) {st : Bool} : It (evi Φ Γ st (.zip a b) ρ) (eP ea eb) (bnd m1 fun x => bnd m2 fun y => ret (x.zip y)) := fun t z t' e => by
  obtain ⟨x, t1, e1, e⟩ := bnd_inv e
  obtain ⟨y, t2, e2, e⟩ := bnd_inv e
  obtain ⟨rfl, rfl⟩ := ret_inv e
  obtain ⟨r1, h1, k1⟩ := ha _ _ _ e1
  obtain ⟨r2, h2, k2⟩ := hb _ _ _ e2
  rw [evi, bnd_at h1, bnd_at h2, seen_fix k1, seen_fix k2, ← zipD_map]
  rfl
def enumT : Nat → List α → List (Int × α)
  | n, x :: xs => ((n : Int), x) :: enumT (n + 1) xs
  | _, [] => []
theorem enumD_map : ∀ (n : Nat) (xs : List α), enumD n (xs.map ea) = (enumT n xs).map (eP eI ea)
  | _, [] => by simp [enumD, enumT]
  | n, x :: xs => by
    show PyData.tuple [.int n, ea x] :: enumD (n + 1) (xs.map ea) = _
    rw [enumD_map (n + 1) xs]; rfl
/-! ### comprehensions -/
def mapT {α β : Type} (f : α → M β) : List α → M (List β)
  | [] => ret []
  | x :: xs => bnd (f x) fun y => bnd (mapT f xs) fun ys => ret (y :: ys)
def filT {α β : Type} (p : α → M Bool) (f : α → M β) : List α → M (List β)
  | [] => ret []
  | x :: xs => bnd (p x) fun k => if k then bnd (f x) fun y => bnd (filT p f xs) fun ys => ret (y :: ys) else filT p f xs
def flatT {α β : Type} (p : α → M Bool) (f : α → M (List β)) : List α → M (List β)
  | [] => ret []
  | x :: xs => bnd (p x) fun k => if k then bnd (f x) fun y => bnd (flatT p f xs) fun ys => ret (y ++ ys) else flatT p f xs
def Gs {α : Type} (u : M (List D)) (e : Enc α) (m : M (List α)) : Prop := ∀ t xs t', m t = some (xs, t') → u t = some (xs.map e, t')
theorem Gs.elt {a : T} (ha : Sf (ev Φ Γ a ρ) ea ma) : Gs (evg Φ Γ (.elt a) ρ) ea (bnd ma fun x => ret [x]) := fun t z t' e => by
  obtain ⟨x, t1, e1, e⟩ := bnd_inv e
  obtain ⟨rfl, rfl⟩ := ret_inv e
  obtain ⟨r, h, k⟩ := ha _ _ _ e1
  rw [evg, bnd_at h, k]; rfl
theorem turnF_eq (tg : Tgt) (c : T) (g : Ge) : (fun d => bnd (lift (bindT tg d (wipeR ρ (slotsT tg ++ ownG g)))) fun ρ1 => bnd (ev Φ Γ c ρ1) fun x => bnd (lift (isTrueD x)) fun k => if k then evg Φ Γ g ρ1 else ret []) = turnF Φ Γ tg c g ρ := rfl
theorem loop_mapT {f : D → M (List D)} {g : α → M β} (h : ∀ x t y t', g x t = some (y, t') → f (ea x) t = some ([eb y], t')) : ∀ (xs : List α) t ys t', mapT g xs t = some (ys, t') → loopL f (xs.map ea) t = some (ys.map eb, t')
  | [], t, ys, t', e => by obtain ⟨rfl, rfl⟩ := ret_inv e; rfl
  | x :: xs, t, ys, t', e => by
    obtain ⟨y, t1, e1, e⟩ := bnd_inv e
    obtain ⟨zs, t2, e2, e⟩ := bnd_inv e
    obtain ⟨rfl, rfl⟩ := ret_inv e
    show bnd (f (ea x)) _ t = _
    rw [bnd_at (h _ _ _ _ e1), bnd_at (loop_mapT h xs _ _ _ e2)]
    rfl
theorem loop_filT {f : D → M (List D)} {p : α → M Bool} {g : α → M β} (h : ∀ x t k t', p x t = some (k, t') → (k = true → ∀ y t2, g x t' = some (y, t2) → f (ea x) t = some ([eb y], t2)) ∧ (k = false → f (ea x) t = some ([], t'))) : ∀ (xs : List α) t ys t', filT p g xs t = some (ys, t') → loopL f (xs.map ea) t = some (ys.map eb, t')
  | [], t, ys, t', e => by obtain ⟨rfl, rfl⟩ := ret_inv e; rfl
  | x :: xs, t, ys, t', e => by
    obtain ⟨k, t1, e1, e⟩ := bnd_inv e
    obtain ⟨h1, h2⟩ := h _ _ _ _ e1
    show bnd (f (ea x)) _ t = _
    cases k with
    | true =>
      simp only [if_true] at e
      obtain ⟨y, t2, e2, e⟩ := bnd_inv e
      obtain ⟨zs, t3, e3, e⟩ := bnd_inv e
      obtain ⟨rfl, rfl⟩ := ret_inv e
      rw [bnd_at (h1 rfl _ _ e2), bnd_at (loop_filT h xs _ _ _ e3)]
      rfl
    | false =>
      simp only [Bool.false_eq_true, if_false] at e
      rw [bnd_at (h2 rfl), bnd_at (loop_filT h xs _ _ _ e)]
      rfl
theorem loop_flatT {f : D → M (List D)} {p : α → M Bool} {g : α → M (List β)} (h : ∀ x t k t', p x t = some (k, t') → (k = true → ∀ y t2, g x t' = some (y, t2) → f (ea x) t = some (y.map eb, t2)) ∧ (k = false → f (ea x) t = some ([], t'))) : ∀ (xs : List α) t ys t', flatT p g xs t = some (ys, t') → loopL f (xs.map ea) t = some (ys.map eb, t')
  | [], t, ys, t', e => by obtain ⟨rfl, rfl⟩ := ret_inv e; rfl
  | x :: xs, t, ys, t', e => by
    obtain ⟨k, t1, e1, e⟩ := bnd_inv e
    obtain ⟨h1, h2⟩ := h _ _ _ _ e1
    show bnd (f (ea x)) _ t = _
    cases k with
    | true =>
      simp only [if_true] at e
      obtain ⟨y, t2, e2, e⟩ := bnd_inv e
      obtain ⟨zs, t3, e3, e⟩ := bnd_inv e
      obtain ⟨rfl, rfl⟩ := ret_inv e
      rw [bnd_at (h1 rfl _ _ e2), bnd_at (loop_flatT h xs _ _ _ e3), List.map_append]
      rfl
    | false =>
      simp only [Bool.false_eq_true, if_false] at e
      rw [bnd_at (h2 rfl), bnd_at (loop_flatT h xs _ _ _ e)]
      rfl
theorem turn_flat {tg : Tgt} {c : T} {g : Ge} {p : M Bool} {m : M (List β)} {d : D} {ρ1 : Env} (h0 : bindT tg d (wipeR ρ (slotsT tg ++ ownG g)) = some ρ1) (hc : Sv (ev Φ Γ c ρ1) eB p) (hg : Gs (evg Φ Γ g ρ1) eb m) {t k t'} (e : p t = some (k, t')) :
    (k = true → ∀ y t2, m t' = some (y, t2) → turnF Φ Γ tg c g ρ d t = some (y.map eb, t2)) ∧ (k = false → turnF Φ Γ tg c g ρ d t = some ([], t')) := by
  have e1 := hc _ _ _ e
  constructor
  · rintro rfl y t2 e2
    unfold turnF
    rw [h0, bnd_lift_some, bnd_at e1]
    exact hg _ _ _ e2
  · rintro rfl
    unfold turnF
    rw [h0, bnd_lift_some, bnd_at e1]
    rfl
theorem So.comp {tg : Tgt} {it : I} {el : T} {mi : M (List α)} {me : α → M β} (hi : It (evi Φ Γ false it ρ) ea mi) (hb : ∀ x, ∃ ρ1, bindT tg (ea x) (wipeR ρ (slotsT tg ++ ownG (.elt el))) = some ρ1 ∧ Sf (ev Φ Γ el ρ1) eb (me x)) :
    So (ev Φ Γ (.comp tg it (.cst (.bool true)) (.elt el)) ρ) eb (bnd mi fun xs => mapT me xs) := fun t z t' e => by
  obtain ⟨xs, t1, e1, e⟩ := bnd_inv e
  rw [ev, bnd_at (hi _ _ _ e1), turnF_eq]
  rw [bnd_at (loop_mapT (eb := eb) (f := turnF Φ Γ tg (.cst (.bool true)) (.elt el) ρ) (fun x t y t' e => ?_) xs _ _ _ e)]
  · rfl
  · obtain ⟨ρ1, h0, h1⟩ := hb x
    obtain ⟨r, h2, k⟩ := h1 _ _ _ e
    unfold turnF
    rw [h0, bnd_lift_some, ev, bnd_ret]
    show bnd (lift (some true)) _ _ = _
    rw [bnd_lift_some]
    show evg Φ Γ (.elt el) ρ1 t = _
    rw [evg, bnd_at h2, k]
    rfl
theorem So.fil {tg : Tgt} {it : I} {c el : T} {mi : M (List α)} {mp : α → M Bool} {me : α → M β} (hi : It (evi Φ Γ false it ρ) ea mi) (hb : ∀ x, ∃ ρ1, bindT tg (ea x) (wipeR ρ (slotsT tg ++ ownG (.elt el))) = some ρ1 ∧ Sv (ev Φ Γ c ρ1) eB (mp x) ∧ Sf (ev Φ Γ el ρ1) eb (me x)) :
    So (ev Φ Γ (.comp tg it c (.elt el)) ρ) eb (bnd mi fun xs => filT mp me xs) := fun t z t' e => by
  obtain ⟨xs, t1, e1, e⟩ := bnd_inv e
  rw [ev, bnd_at (hi _ _ _ e1), turnF_eq]
  rw [bnd_at (loop_filT (eb := eb) (f := turnF Φ Γ tg c (.elt el) ρ) (fun x t k t' e => ?_) xs _ _ _ e)]
  · rfl
  · obtain ⟨ρ1, h0, h1, h2⟩ := hb x
    obtain ⟨k1, k2⟩ := turn_flat (eb := eb) h0 h1 (Gs.elt h2) e
    refine ⟨fun hk y t2 e2 => ?_, k2⟩
    exact k1 hk [y] t2 (by rw [bnd_at e2]; rfl)
theorem So.flat {tg : Tgt} {it : I} {c : T} {tg2 : Tgt} {it2 : I} {c2 : T} {g2 : Ge} {mi : M (List α)} {mp : α → M Bool} {me : α → M (List β)} (hi : It (evi Φ Γ false it ρ) ea mi) (hb : ∀ x, ∃ ρ1, bindT tg (ea x) (wipeR ρ (slotsT tg ++ ownG (.for_ tg2 it2 c2 g2))) = some ρ1 ∧ Sv (ev Φ Γ c ρ1) eB (mp x) ∧ Gs (evg Φ Γ (.for_ tg2 it2 c2 g2) ρ1) eb (me x)) :
    So (ev Φ Γ (.comp tg it c (.for_ tg2 it2 c2 g2)) ρ) eb (bnd mi fun xs => bnd (flatT mp me xs) fun ys => lift (fitT ys)) := fun t z t' e => by
  obtain ⟨xs, t1, e1, e⟩ := bnd_inv e
  obtain ⟨ys, t2, e2, e⟩ := bnd_inv e
  obtain ⟨e3, rfl⟩ := lift_inv e
  rw [ev, bnd_at (hi _ _ _ e1), turnF_eq]
  rw [bnd_at (loop_flatT (eb := eb) (f := turnF Φ Γ tg c (.for_ tg2 it2 c2 g2) ρ) (fun x t k t' e => ?_) xs _ _ _ e2)]
  · unfold fitT at e3
    split at e3
    · rename_i hl
      cases e3
      show lift (if (List.map eb _).length ≤ big then _ else _) _ = _
      rw [List.length_map, if_pos hl]
      rfl
    · cases e3
  · obtain ⟨ρ1, h0, h1, h2⟩ := hb x
    exact turn_flat (eb := eb) h0 h1 h2 e
theorem Gs.for_ {tg : Tgt} {it : I} {c : T} {g : Ge} {mi : M (List α)} {mp : α → M Bool} {me : α → M (List β)} (hi : It (evi Φ Γ true it ρ) ea mi) (hb : ∀ x, ∃ ρ1, bindT tg (ea x) (wipeR ρ (slotsT tg ++ ownG g)) = some ρ1 ∧ Sv (ev Φ Γ c ρ1) eB (mp x) ∧ Gs (evg Φ Γ g ρ1) eb (me x)) :
    Gs (evg Φ Γ (.for_ tg it c g) ρ) eb (bnd mi fun xs => flatT mp me xs) := fun t z t' e => by
  obtain ⟨xs, t1, e1, e⟩ := bnd_inv e
  rw [evg, bnd_at (hi _ _ _ e1), turnF_eq]
  exact loop_flatT (eb := eb) (f := turnF Φ Γ tg c g ρ) (fun x t k t' e => by
    obtain ⟨ρ1, h0, h1, h2⟩ := hb x
    exact turn_flat (eb := eb) h0 h1 h2 e) xs _ _ _ e
end

end Ev

set_option Elab.async false
set_option linter.all false
set_option maxRecDepth 100000
set_option maxHeartbeats 1000000
/-! EvT3: statements and defs over typed values; what the operators are there. -/
namespace Ev
open PySem
def Ex {ω : Type} (u : M Out) (Z : ω → Out → Prop) (m : M ω) : Prop := ∀ t o t', m t = some (o, t') → ∃ q, u t = some (q, t') ∧ Z o q
def Ss.app : Ss → Ss → Ss
  | .nil, b => b
  | .cons s a, b => .cons s (a.app b)
/-- what a loop keeps, and what leaves it -/
def ZJ {σ : Type} (J : σ → Env → Prop) : σ → Out → Prop := fun s q => q.1 = none ∧ J s q.2
def ZR {ω σ : Type} (Z : ω → Out → Prop) (J : σ → Env → Prop) : ω ⊕ σ → Out → Prop
  | .inl o, q => q.1 ≠ none ∧ Z o q
  | .inr s, q => q.1 = none ∧ J s q.2
/-- what a def's body gives -/
def ZF {β : Type} (W : β → R) : β → Out → Prop := fun y q => outR q = W y
def foldT {α σ : Type} (f : σ → α → M σ) : List α → σ → M σ
  | [], s => ret s
  | x :: xs, s => bnd (f s x) fun s' => foldT f xs s'
def forT {α σ ω : Type} (f : σ → α → M (ω ⊕ σ)) : List α → σ → M (ω ⊕ σ)
  | [], s => ret (.inr s)
  | x :: xs, s => bnd (f s x) fun o => match o with
    | .inl y => ret (.inl y)
    | .inr s' => forT f xs s'
def outT {ω σ : Type} (k : σ → M ω) : ω ⊕ σ → M ω
  | .inl y => ret y
  | .inr s => k s
section
variable {Φ : Call} {Γ : Str → Option D} {ρ : Env} {α β γ δ σ ω : Type} {ea : Enc α} {eb : Enc β} {ec : Enc γ} {ed : Enc δ} {ma : M α} {mb : M β} {Z : ω → Out → Prop} {m m1 m2 : M ω}
theorem exSs_app (a b : Ss) : exSs Φ Γ (a.app b) ρ = bnd (exSs Φ Γ a ρ) fun o => match o with
    | (none, ρ') => exSs Φ Γ b ρ'
    | (some r, ρ') => ret (some r, ρ') := by
  suffices h : ∀ (a : Ss) (ρ : Env), exSs Φ Γ (a.app b) ρ = bnd (exSs Φ Γ a ρ) fun o => match o with
      | (none, ρ') => exSs Φ Γ b ρ'
      | (some r, ρ') => ret (some r, ρ') from h a ρ
  intro a
  induction a using Ss.rec (motive_1 := fun _ => True) with
  | nil => intro ρ; rw [exSs]; rfl
  | cons s ss _ ih =>
    intro ρ
    show exSs Φ Γ (.cons s (ss.app b)) ρ = _
    rw [exSs, exSs]
    funext t
    unfold bnd
    cases exS Φ Γ s ρ t with
    | none => rfl
    | some p =>
      obtain ⟨⟨o, ρ'⟩, t1⟩ := p
      cases o with
      | some r => rfl
      | none =>
        show exSs Φ Γ (ss.app b) ρ' t1 = _
        rw [ih ρ']
        rfl
  | _ => trivial
theorem Ex.nil {s : ω} (h : Z s (none, ρ)) : Ex (exSs Φ Γ .nil ρ) Z (ret s) := fun t o t' e => by
  obtain ⟨rfl, rfl⟩ := ret_inv e
  exact ⟨_, by rw [exSs]; rfl, h⟩
theorem Ex.ret0 {e : T} {ss : Ss} {g : α → R} (he : Sv (ev Φ Γ e ρ) ea ma) (hz : ∀ x, ZF g x (some (.val (ea x)), ρ)) : Ex (exSs Φ Γ (.cons (.ret e) ss) ρ) (ZF g) ma := fun t o t' h => by
  refine ⟨_, ?_, hz o⟩
  rw [exSs, exS, bnd_at (m := bnd _ _) (bnd_at (he _ _ _ h))]
  rfl
theorem Ex.ret {e : T} {ss : Ss} {g : α → ω} (he : Sv (ev Φ Γ e ρ) ea ma) (hz : ∀ x, Z (g x) (some (.val (ea x)), ρ)) : Ex (exSs Φ Γ (.cons (.ret e) ss) ρ) Z (bnd ma fun x => ret (g x)) := fun t o t' h => by
  obtain ⟨x, t1, e1, h⟩ := bnd_inv h
  obtain ⟨rfl, rfl⟩ := ret_inv h
  refine ⟨_, ?_, hz x⟩
  rw [exSs, exS, bnd_at (m := bnd _ _) (bnd_at (he _ _ _ e1))]
  rfl
theorem Ex.retO {e : T} {ss : Ss} {ml : M (List α)} {g : List α → ω} (he : So (ev Φ Γ e ρ) ea ml) (hz : ∀ x, Z (g x) (some (.own (x.map ea)), ρ)) : Ex (exSs Φ Γ (.cons (.ret e) ss) ρ) Z (bnd ml fun x => Ev.ret (g x)) := fun t o t' h => by
  obtain ⟨x, t1, e1, h⟩ := bnd_inv h
  obtain ⟨rfl, rfl⟩ := ret_inv h
  refine ⟨_, ?_, hz x⟩
  rw [exSs, exS, bnd_at (m := bnd _ _) (bnd_at (he _ _ _ e1))]
  rfl
/-- return of a name's own list -/
theorem Ex.retB {i : Nat} {ss : Ss} {xs : List α} {o : ω} (he : slot ρ i = some (.bor (xs.map ea))) (hz : Z o (some (.own (xs.map ea)), ρ)) : Ex (exSs Φ Γ (.cons (.ret (.var i)) ss) ρ) Z (Ev.ret o) := fun t o t' h => by
  obtain ⟨rfl, rfl⟩ := ret_inv h
  refine ⟨_, ?_, hz⟩
  rw [exSs, exS, ev, he]
  rfl
theorem Ex.set {e : T} {ss : Ss} {i : Nat} {k : α → M ω} (he : Sf (ev Φ Γ e ρ) ea ma) (hk : ∀ x, Ex (exSs Φ Γ ss (ρ.set i (some (.val (ea x))))) Z (k x)) : Ex (exSs Φ Γ (.cons (.set i e) ss) ρ) Z (bnd ma k) := fun t o t' h => by
  obtain ⟨x, t1, e1, h⟩ := bnd_inv h
  obtain ⟨r, h1, h2⟩ := he _ _ _ e1
  obtain ⟨q, h3, hz⟩ := hk x _ _ _ h
  refine ⟨q, ?_, hz⟩
  rw [exSs, exS, bnd_at (m := bnd _ _) ((bnd_at h1).trans (lift_at (by rw [h2]; rfl)))]
  exact h3
theorem Ex.setO {e : T} {ss : Ss} {i : Nat} {ml : M (List α)} {k : List α → M ω} (he : So (ev Φ Γ e ρ) ea ml) (hk : ∀ x, Ex (exSs Φ Γ ss (ρ.set i (some (.own (x.map ea))))) Z (k x)) : Ex (exSs Φ Γ (.cons (.setO i e) ss) ρ) Z (bnd ml k) := fun t o t' h => by
  obtain ⟨x, t1, e1, h⟩ := bnd_inv h
  obtain ⟨q, h3, hz⟩ := hk x _ _ _ h
  refine ⟨q, ?_, hz⟩
  rw [exSs, exS, bnd_at (m := bnd _ _) (bnd_at (he _ _ _ e1))]
  exact h3
theorem Ex.unp {e : T} {ss : Ss} {is : List Nat} {k : α → M ω} {ρ1 : α → Env} (he : Sf (ev Φ Γ e ρ) ea ma) (hb : ∀ x, bindT (.tup is) (ea x) ρ = some (ρ1 x)) (hk : ∀ x, Ex (exSs Φ Γ ss (ρ1 x)) Z (k x)) : Ex (exSs Φ Γ (.cons (.unp is e) ss) ρ) Z (bnd ma k) := fun t o t' h => by
  obtain ⟨x, t1, e1, h⟩ := bnd_inv h
  obtain ⟨r, h1, h2⟩ := he _ _ _ e1
  obtain ⟨q, h3, hz⟩ := hk x _ _ _ h
  refine ⟨q, ?_, hz⟩
  rw [exSs, exS, bnd_at (m := bnd _ _) ((bnd_at h1).trans (lift_at (by rw [h2]; show (bindT (.tup is) (ea x) ρ).map _ = _; rw [hb]; rfl)))]
  exact h3
/-- a, b = x, y -/
theorem Ex.par2 {a b : T} {ss : Ss} {p q : Nat × Bool} {ra : α → R} {rb : β → R} {k : α → β → M ω} {ρ1 : α → β → Env} (ha : ∀ t x t', ma t = some (x, t') → ev Φ Γ a ρ t = some (ra x, t')) (hb : ∀ t x t', mb t = some (x, t') → ev Φ Γ b ρ t = some (rb x, t'))
    (hp : ∀ x y, putRs [p, q] [ra x, rb y] ρ = some (ρ1 x y)) (hk : ∀ x y, Ex (exSs Φ Γ ss (ρ1 x y)) Z (k x y)) : Ex (exSs Φ Γ (.cons (.par [p, q] (.cons a (.cons b .nil))) ss) ρ) Z (bnd ma fun x => bnd mb fun y => k x y) := fun t o t' h => by
  obtain ⟨x, t1, e1, h⟩ := bnd_inv h
  obtain ⟨y, t2, e2, h⟩ := bnd_inv h
  obtain ⟨z, h3, hz⟩ := hk x y _ _ _ h
  refine ⟨z, ?_, hz⟩
  have e3 : evs Φ Γ (.cons a (.cons b .nil)) ρ t = some ([ra x, rb y], t2) := by
    rw [evs, evs, evs, bnd_at (ha _ _ _ e1)]
    show bnd (bnd (ev Φ Γ b ρ) _) _ t1 = _
    rw [bnd_at (bnd_at (hb _ _ _ e2))]
    rfl
  rw [exSs, exS, bnd_at (m := bnd _ _) ((bnd_at e3).trans (lift_at (by rw [hp]; rfl)))]
  exact h3
theorem Ex.aug {e : T} {ss : Ss} {i : Nat} {o : BOp} {x : Int} {g : Int → Int} {mi : M Int} {k : Int → M ω} (hs : slot ρ i = some (.val (.int x))) (hg : ∀ y, augR o (some x) (some y) = some (g y)) (he : Sv (ev Φ Γ e ρ) eI mi) (hk : ∀ y, Ex (exSs Φ Γ ss (ρ.set i (some (.val (.int (g y)))))) Z (k y)) : Ex (exSs Φ Γ (.cons (.aug i o e) ss) ρ) Z (bnd mi k) := fun t z t' h => by
  obtain ⟨y, t1, e1, h⟩ := bnd_inv h
  obtain ⟨q, h3, hz⟩ := hk y _ _ _ h
  refine ⟨q, ?_, hz⟩
  rw [exSs]
  have e2 : exS Φ Γ (.aug i o e) ρ t = some ((none, ρ.set i (some (.val (.int (g y))))), t1) := by
    have := (oks_aug (Φ := Φ) (Γ := Γ) (ρ := ρ) (t := t) (i := i) (o := o) (e := e) (Q := fun q t' => q = (none, ρ.set i (some (.val (.int (g y))))) ∧ t' = t1)).mpr ⟨_, hs, .mk (he _ _ _ e1) ⟨g y, by show augR o (some x) (some y) = _; exact hg y, rfl, rfl⟩⟩
    obtain ⟨a, b, h9, rfl, rfl⟩ := this.out
    exact h9
  rw [bnd_at e2]
  exact h3
theorem Ex.app {e : T} {ss : Ss} {i : Nat} {xs : List α} {k : α → M ω} (ho : ownAt ρ i = some (xs.map ea)) (he : Sf (ev Φ Γ e ρ) ea ma) (hk : ∀ x, Ex (exSs Φ Γ ss (ρ.set i (some (.own ((xs ++ [x]).map ea))))) Z (k x)) : Ex (exSs Φ Γ (.cons (.app i e) ss) ρ) Z (bnd ma fun x => bnd (lift (if xs.length < big then some () else none)) fun _ => k x) := fun t o t' h => by
  obtain ⟨x, t1, e1, g⟩ := bnd_inv h
  obtain ⟨_u, t2, e2, g2⟩ := bnd_inv g
  obtain ⟨e3, rfl⟩ := lift_inv e2
  obtain ⟨r, h1, h2⟩ := he _ _ _ e1
  obtain ⟨q, h3, hz⟩ := hk x _ _ _ g2
  refine ⟨q, ?_, hz⟩
  have hl : xs.length < big := by
    split at e3
    · assumption
    · cases e3
  rw [exSs, exS, ho, bnd_lift_some]
  rw [bnd_at (m := bnd _ _) ((bnd_at h1).trans (lift_at (by rw [h2]; show (if (xs.map ea).length < big then _ else _) = _; rw [List.length_map, if_pos hl])))]
  rw [List.map_append] at h3
  exact h3
theorem Ex.frz {ss : Ss} {i : Nat} {xs : List α} (ho : ownAt ρ i = some (xs.map ea)) (hk : Ex (exSs Φ Γ ss (ρ.set i (some (.val (eL ea xs))))) Z m) : Ex (exSs Φ Γ (.cons (.frz i) ss) ρ) Z m := fun t o t' h => by
  obtain ⟨q, h3, hz⟩ := hk _ _ _ h
  refine ⟨q, ?_, hz⟩
  rw [exSs, exS, ho]
  exact h3
def setT {α : Type} (xs : List α) (i : Int) (x : α) : Option (List α) := (L2.ixN xs.length i).map fun j => xs.set j x
theorem Ex.seti {e ix : T} {ss : Ss} {i : Nat} {xs : List α} {mi : M Int} {k : List α → M ω} (ho : ownAt ρ i = some (xs.map ea)) (he : Sf (ev Φ Γ e ρ) ea ma) (hi : Sv (ev Φ Γ ix ρ) eI mi) (hk : ∀ ys, Ex (exSs Φ Γ ss (ρ.set i (some (.own (ys.map ea))))) Z (k ys)) : Ex (exSs Φ Γ (.cons (.seti i ix e) ss) ρ) Z (bnd ma fun x => bnd mi fun j => bnd (lift (setT xs j x)) k) := fun t o t' h => by
  obtain ⟨x, t1, e1, g1⟩ := bnd_inv h
  obtain ⟨j, t2, e2, g2⟩ := bnd_inv g1
  obtain ⟨ys, t3, e3, g3⟩ := bnd_inv g2
  obtain ⟨e9, e8⟩ := lift_inv e3
  rw [e8] at g3
  obtain ⟨r, h1, h2⟩ := he _ _ _ e1
  obtain ⟨q, h3, hz⟩ := hk ys _ _ _ g3
  refine ⟨q, ?_, hz⟩
  have e4 : setIx (xs.map ea) j (ea x) = some (ys.map ea) := by
    unfold setT at e9
    unfold setIx
    rw [List.length_map]
    obtain ⟨n, h5, rfl⟩ := Option.map_eq_some_iff.mp e9
    rw [h5]
    show some ((xs.map ea).set n (ea x)) = _
    rw [List.map_set]
  have e5 : exS Φ Γ (.seti i ix e) ρ t = some ((none, ρ.set i (some (.own (ys.map ea)))), t2) := by
    rw [exS, bnd_at h1, ho, bnd_lift_some, bnd_at (hi _ _ _ e2), h2]
    show lift ((setIx (xs.map ea) j (ea x)).map _) _ = _
    rw [e4]
    rfl
  rw [exSs, bnd_at e5]
  exact h3
theorem Ex.ite {c : T} {a b ss : Ss} {mc : M Bool} (hc : Sv (ev Φ Γ c ρ) eB mc) (h1 : Ex (exSs Φ Γ (a.app ss) ρ) Z m1) (h2 : Ex (exSs Φ Γ (b.app ss) ρ) Z m2) : Ex (exSs Φ Γ (.cons (.ite c a b) ss) ρ) Z (bnd mc fun k => if k then m1 else m2) := fun t o t' h => by
  obtain ⟨x, t1, e1, h⟩ := bnd_inv h
  have e5 : exS Φ Γ (.ite c a b) ρ t = if x then exSs Φ Γ a ρ t1 else exSs Φ Γ b ρ t1 := by
    rw [exS, bnd_at (hc _ _ _ e1)]
    cases x <;> rfl
  cases x with
  | true =>
    obtain ⟨q, h3, hz⟩ := h1 _ _ _ h
    refine ⟨q, ?_, hz⟩
    rw [exSs_app] at h3
    rw [exSs]
    unfold bnd at h3 ⊢
    rw [e5]
    exact h3
  | false =>
    obtain ⟨q, h3, hz⟩ := h2 _ _ _ h
    refine ⟨q, ?_, hz⟩
    rw [exSs_app] at h3
    rw [exSs]
    unfold bnd at h3 ⊢
    rw [e5]
    exact h3
/-- a for whose body never returns -/
theorem Ex.for0 {tg : Tgt} {it : I} {body ss : Ss} {mi : M (List α)} {f : σ → α → M σ} {s0 : σ} {k : σ → M ω} (J : σ → Env → Prop) (hi : It (evi Φ Γ true it ρ) ea mi) (h0 : J s0 ρ)
    (hb : ∀ s x ρ', J s ρ' → ∃ ρ1, bindT tg (ea x) ρ' = some ρ1 ∧ Ex (exSs Φ Γ body ρ1) (ZJ J) (f s x)) (hk : ∀ s ρ', J s ρ' → Ex (exSs Φ Γ ss ρ') Z (k s)) :
    Ex (exSs Φ Γ (.cons (.for_ tg it body) ss) ρ) Z (bnd mi fun xs => bnd (foldT f xs s0) k) := fun t o t' h => by
  obtain ⟨xs, t1, e1, h⟩ := bnd_inv h
  obtain ⟨s, t2, e2, h⟩ := bnd_inv h
  have key : ∀ (xs : List α) (s0 : σ) (ρ : Env) (t1 : Tape), J s0 ρ → foldT f xs s0 t1 = some (s, t2) → ∃ ρ', forL (fun d ρ => bnd (lift (bindT tg d ρ)) fun ρ' => exSs Φ Γ body ρ') (xs.map ea) ρ t1 = some ((none, ρ'), t2) ∧ J s ρ' := by
    intro xs
    induction xs with
    | nil => intro s0 ρ t1 hJ e; obtain ⟨rfl, rfl⟩ := ret_inv e; exact ⟨ρ, rfl, hJ⟩
    | cons x xs ih =>
      intro s0 ρ t1 hJ e
      obtain ⟨s1, t3, e3, e⟩ := bnd_inv e
      obtain ⟨ρ1, h1, h2⟩ := hb s0 x ρ hJ
      obtain ⟨⟨o1, ρ2⟩, h3, h4, h5⟩ := h2 _ _ _ e3
      obtain ⟨ρ', h6, h7⟩ := ih _ _ _ h5 e
      refine ⟨ρ', ?_, h7⟩
      have h4 : o1 = none := h4
      subst h4
      show bnd (bnd (lift (bindT tg (ea x) ρ)) fun ρ' => exSs Φ Γ body ρ') _ t1 = _
      rw [h1, bnd_lift_some, bnd_at h3]
      exact h6
  obtain ⟨ρ', h1, h2⟩ := key xs s0 ρ t1 h0 e2
  obtain ⟨q, h3, hz⟩ := hk s ρ' h2 _ _ _ h
  refine ⟨q, ?_, hz⟩
  rw [exSs, exS, bnd_at (m := bnd _ _) ((bnd_at (hi _ _ _ e1)).trans h1)]
  exact h3
/-- a for whose body may return -/
theorem Ex.for1 {tg : Tgt} {it : I} {body ss : Ss} {mi : M (List α)} {f : σ → α → M (ω ⊕ σ)} {s0 : σ} {k : σ → M ω} (J : σ → Env → Prop) (hi : It (evi Φ Γ true it ρ) ea mi) (h0 : J s0 ρ)
    (hb : ∀ s x ρ', J s ρ' → ∃ ρ1, bindT tg (ea x) ρ' = some ρ1 ∧ Ex (exSs Φ Γ body ρ1) (ZR Z J) (f s x)) (hk : ∀ s ρ', J s ρ' → Ex (exSs Φ Γ ss ρ') Z (k s)) :
    Ex (exSs Φ Γ (.cons (.for_ tg it body) ss) ρ) Z (bnd mi fun xs => bnd (forT f xs s0) (outT k)) := fun t o t' h => by
  obtain ⟨xs, t1, e1, h⟩ := bnd_inv h
  obtain ⟨s, t2, e2, h⟩ := bnd_inv h
  have key : ∀ (xs : List α) (s0 : σ) (ρ : Env) (t1 : Tape), J s0 ρ → forT f xs s0 t1 = some (s, t2) → ∃ q, forL (fun d ρ => bnd (lift (bindT tg d ρ)) fun ρ' => exSs Φ Γ body ρ') (xs.map ea) ρ t1 = some (q, t2) ∧ ZR Z J s q := by
    intro xs
    induction xs with
    | nil => intro s0 ρ t1 hJ e; obtain ⟨rfl, rfl⟩ := ret_inv e; exact ⟨(none, ρ), rfl, rfl, hJ⟩
    | cons x xs ih =>
      intro s0 ρ t1 hJ e
      obtain ⟨s1, t3, e3, e⟩ := bnd_inv e
      obtain ⟨ρ1, h1, h2⟩ := hb s0 x ρ hJ
      obtain ⟨⟨o1, ρ2⟩, h3, h4⟩ := h2 _ _ _ e3
      cases s1 with
      | inl y =>
        obtain ⟨rfl, rfl⟩ := ret_inv e
        obtain ⟨h5, h6⟩ := h4
        refine ⟨(o1, ρ2), ?_, h5, h6⟩
        show bnd (bnd (lift (bindT tg (ea x) ρ)) fun ρ' => exSs Φ Γ body ρ') _ t1 = _
        rw [h1, bnd_lift_some, bnd_at h3]
        cases o1 with
        | none => exact absurd rfl h5
        | some r => rfl
      | inr s1 =>
        obtain ⟨h5, h6⟩ := h4
        obtain ⟨q, h7, h8⟩ := ih _ _ _ h6 e
        refine ⟨q, ?_, h8⟩
        have h5 : o1 = none := h5
        subst h5
        show bnd (bnd (lift (bindT tg (ea x) ρ)) fun ρ' => exSs Φ Γ body ρ') _ t1 = _
        rw [h1, bnd_lift_some, bnd_at h3]
        exact h7
  obtain ⟨⟨o1, ρ2⟩, h1, h2⟩ := key xs s0 ρ t1 h0 e2
  cases s with
  | inl y =>
    obtain ⟨h5, h6⟩ := h2
    obtain ⟨rfl, rfl⟩ := ret_inv h
    refine ⟨(o1, ρ2), ?_, h6⟩
    rw [exSs, exS, bnd_at (m := bnd _ _) ((bnd_at (hi _ _ _ e1)).trans h1)]
    cases o1 with
    | none => exact absurd rfl h5
    | some r => rfl
  | inr s =>
    obtain ⟨h5, h6⟩ := h2
    have h5 : o1 = none := h5
    subst h5
    obtain ⟨q, h3, hz⟩ := hk s ρ2 h6 _ _ _ h
    refine ⟨q, ?_, hz⟩
    rw [exSs, exS, bnd_at (m := bnd _ _) ((bnd_at (hi _ _ _ e1)).trans h1)]
    exact h3
/-- both ways go on alike -/
theorem Ex.iteJ {c : T} {a b ss : Ss} {mc : M Bool} {n1 n2 : M σ} {k : σ → M ω} (J : σ → Env → Prop) (hc : Sv (ev Φ Γ c ρ) eB mc) (h1 : Ex (exSs Φ Γ a ρ) (ZJ J) n1) (h2 : Ex (exSs Φ Γ b ρ) (ZJ J) n2) (hk : ∀ s ρ', J s ρ' → Ex (exSs Φ Γ ss ρ') Z (k s)) :
    Ex (exSs Φ Γ (.cons (.ite c a b) ss) ρ) Z (bnd (bnd mc fun x => if x then n1 else n2) k) := fun t o t' h => by
  obtain ⟨s, t2, e2, h⟩ := bnd_inv h
  obtain ⟨x, t1, e1, e2⟩ := bnd_inv e2
  have e5 : exS Φ Γ (.ite c a b) ρ t = if x then exSs Φ Γ a ρ t1 else exSs Φ Γ b ρ t1 := by
    rw [exS, bnd_at (hc _ _ _ e1)]
    cases x <;> rfl
  have key : ∃ ρ', exS Φ Γ (.ite c a b) ρ t = some ((none, ρ'), t2) ∧ J s ρ' := by
    cases x with
    | true =>
      obtain ⟨⟨o1, ρ'⟩, h3, h4, h5⟩ := h1 _ _ _ e2
      have h4 : o1 = none := h4
      subst h4
      exact ⟨ρ', by rw [e5]; exact h3, h5⟩
    | false =>
      obtain ⟨⟨o1, ρ'⟩, h3, h4, h5⟩ := h2 _ _ _ e2
      have h4 : o1 = none := h4
      subst h4
      exact ⟨ρ', by rw [e5]; exact h3, h5⟩
  obtain ⟨ρ', h3, h4⟩ := key
  obtain ⟨q, h5, hz⟩ := hk s ρ' h4 _ _ _ h
  refine ⟨q, ?_, hz⟩
  rw [exSs, bnd_at h3]
  exact h5
theorem Ex.tini {e : T} {ss : Ss} {i : Nat} {g : α → D} {gs : α → List D} (he : ∀ t x t', ma t = some (x, t') → ev Φ Γ e ρ t = some (.own (g x :: gs x), t')) (hl : i < ρ.length) {k : α → M ω} (hk : ∀ x, Ex (exSs Φ Γ ss ρ) Z (k x)) : Ex (exSs Φ Γ (.cons (.tini i e) ss) ρ) Z (bnd ma fun x => fun _ => k x (g x :: gs x)) := fun t o t' h => by
  obtain ⟨x, t1, e1, h⟩ := bnd_inv h
  obtain ⟨q, h3, hz⟩ := hk x _ _ _ h
  refine ⟨q, ?_, hz⟩
  have e5 : exS Φ Γ (.tini i e) ρ t = some ((none, ρ), g x :: gs x) := by
    rw [exS, bnd_at (he _ _ _ e1)]
    show (if i < ρ.length then _ else _) = _
    rw [if_pos hl]
  rw [exSs, bnd_at e5]
  exact h3
end
/-! ### defs -/
def run {α : Type} (m : M α) : Option α := (m []).map (·.1)
theorem run_ret {α : Type} (x : α) : run (ret x) = some x := rfl
section
variable {P : Str → Option Def} {Γ : Str → Option D} {β : Type} {W : β → R} {m : M β} {f : Str} {d : Def} {ds : List D} {n : Nat}
theorem call_eq (h : P f = some d) (hl : ds.length + (if d.tape then 1 else 0) = d.np ∧ d.np ≤ d.ns) : callD P Γ (n + 1) f ds = bnd (exSs (callD P Γ n) Γ d.body (entry d ds)) fun o => ret (outR o) := by
  conv => lhs; unfold callD
  rw [h]
  exact if_pos hl
theorem Fv.mk (h : P f = some d) (hl : ds.length + (if d.tape then 1 else 0) = d.np ∧ d.np ≤ d.ns) (hE : Ex (exSs (callD P Γ n) Γ d.body (entry d ds)) (ZF W) m) : Fv (callD P Γ (n + 1)) f ds W (run m) := fun y e => by
  unfold run at e
  obtain ⟨⟨y', t'⟩, e1, rfl⟩ := Option.map_eq_some_iff.mp e
  obtain ⟨q, h3, hz⟩ := hE _ _ _ e1
  exact ⟨t', by rw [call_eq h hl, bnd_at h3, hz]; rfl⟩
theorem Ft.mk (h : P f = some d) (hl : ds.length + (if d.tape then 1 else 0) = d.np ∧ d.np ≤ d.ns) (hE : Ex (exSs (callD P Γ n) Γ d.body (entry d ds)) (ZF W) m) : Ft (callD P Γ (n + 1)) f ds W m := fun t y t' e => by
  obtain ⟨q, h3, hz⟩ := hE _ _ _ e
  rw [call_eq h hl, bnd_at h3, hz]; rfl
/-- from a run that is shown to end so -/
theorem Fv.of {o : Option β} (h : ∀ y, o = some y → Ok (callD P Γ n f ds) [] fun r _ => r = W y) : Fv (callD P Γ n) f ds W o := fun y e => by
  obtain ⟨r, t', h1, rfl⟩ := (h y e).out
  exact ⟨t', h1⟩
end
/-! ### what the operators are -/
section
variable {α β γ : Type} {e : Enc α} {ea : Enc α} {eb : Enc β} {ec : Enc γ}
theorem op_addI (x y : Int) : bop .add (eI x) (eI y) = some (.val (eI (x + y))) := rfl
theorem op_subI (x y : Int) : bop .sub (eI x) (eI y) = some (.val (eI (x - y))) := rfl
def mulT (x y : Int) : Option Int := if mulOk x y then some (x * y) else none
theorem op_mulI (x y z : Int) (h : mulT x y = some z) : bop .mul (eI x) (eI y) = some (.val (eI z)) := by
  unfold mulT at h
  show (if mulOk x y then _ else _) = _
  split at h
  · rename_i h1; cases h; rw [if_pos h1]; rfl
  · cases h
def divT (x y : Int) : Option Int := if 0 < y ∧ y.natAbs < 2 ^ 400 then some (x / y) else none
theorem op_divI (x y z : Int) (h : divT x y = some z) : bop .fdiv (eI x) (eI y) = some (.val (eI z)) := by
  unfold divT at h
  show (if 0 < y ∧ y.natAbs < 2 ^ 400 then _ else _) = _
  split at h
  · rename_i h1; cases h; rw [if_pos h1]; rfl
  · cases h
def modT (x y : Int) : Option Int := if 0 < y then some (x % y) else none
theorem op_modI (x y z : Int) (h : modT x y = some z) : bop .mod (eI x) (eI y) = some (.val (eI z)) := by
  unfold modT at h
  show (if 0 < y then _ else _) = _
  split at h
  · rename_i h1; cases h; rw [if_pos h1]; rfl
  · cases h
def powT (x y : Int) : Option Int := if 0 ≤ y ∧ y ≤ 1000 ∧ x.natAbs < 2 ^ 64 then some (x ^ y.toNat) else none
theorem op_powI (x y z : Int) (h : powT x y = some z) : bop .pow (eI x) (eI y) = some (.val (eI z)) := by
  unfold powT at h
  show (if 0 ≤ y ∧ y ≤ 1000 ∧ x.natAbs < 2 ^ 64 then _ else _) = _
  split at h
  · rename_i h1; cases h; rw [if_pos h1]; rfl
  · cases h
def catT (x y : List α) : Option (List α) := if x.length + y.length ≤ big then some (x ++ y) else none
theorem op_addT (x y z : List α) (h : catT x y = some z) : bop .add (eT e x) (eT e y) = some (.val (eT e z)) := by
  unfold catT at h
  show (if (x.map e).length + (y.map e).length ≤ big then some (R.val (.tuple (x.map e ++ y.map e))) else _) = _
  rw [List.length_map, List.length_map]
  split at h
  · rename_i h1; cases h; rw [if_pos h1, ← List.map_append]; rfl
  · cases h
theorem op_addL (x y z : List α) (h : catT x y = some z) : bop .add (eL e x) (eL e y) = some (.own (z.map e)) := by
  unfold catT at h
  show (if (x.map e).length + (y.map e).length ≤ big then some (R.own (x.map e ++ y.map e)) else _) = _
  rw [List.length_map, List.length_map]
  split at h
  · rename_i h1; cases h; rw [if_pos h1, ← List.map_append]
  · cases h
def repT (x : List α) (j : Int) : Option (List α) := if 2 ≤ j ∧ j ≤ 1000 ∧ 0 < x.length ∧ x.length ≤ 1000 then some (List.replicate j.toNat x).flatten else none
theorem op_mulT (x : List α) (j : Int) (z : List α) (h : repT x j = some z) : bop .mul (eT e x) (eI j) = some (.val (eT e z)) := by
  unfold repT at h
  show (if 2 ≤ j ∧ j ≤ 1000 ∧ 0 < (x.map e).length ∧ (x.map e).length ≤ 1000 then some (R.val (.tuple (List.replicate j.toNat (x.map e)).flatten)) else _) = _
  rw [List.length_map]
  split at h
  · rename_i h1; cases h; rw [if_pos h1, show eT e (List.replicate j.toNat x).flatten = .tuple ((List.replicate j.toNat x).flatten.map e) from rfl, List.map_flatten, List.map_replicate]
  · cases h
theorem cmp_eq [DecidableEq α] [EqE e] {n : Nat} [h : OkE e n] (hn : n ≤ 60) (x y : α) : cop .eq (e x) (e y) = some (decide (x = y)) := by
  show (if ok 60 (e x) && ok 60 (e y) then _ else _) = _
  rw [h.at60 hn, h.at60 hn, EqE.eq]; rfl
theorem cmp_ne [DecidableEq α] [EqE e] {n : Nat} [h : OkE e n] (hn : n ≤ 60) (x y : α) : cop .ne (e x) (e y) = some (!decide (x = y)) := by
  show (if ok 60 (e x) && ok 60 (e y) then _ else _) = _
  rw [h.at60 hn, h.at60 hn, EqE.eq]; rfl
section
variable {l : α → α → Bool} [k : LtE e l] [nn : NnE e] {n : Nat} [h : OkE e n]
include nn
theorem notNone (x : α) : isNone (e x) = false := by
  have := nn.nn x
  cases hd : e x <;> first | rfl | exact absurd hd this
include k h
theorem cmp_lt (hn : n ≤ 60) (x y : α) : cop .lt (e x) (e y) = some (l x y) := by
  show (if alk (e x) (e y) && !isNone (e x) && ok 60 (e x) && ok 60 (e y) then _ else _) = _
  rw [h.at60 hn, h.at60 hn, k.hak, notNone, k.hlt]; rfl
theorem cmp_gt (hn : n ≤ 60) (x y : α) : cop .gt (e x) (e y) = some (l y x) := by
  show (if alk (e x) (e y) && !isNone (e x) && ok 60 (e x) && ok 60 (e y) then _ else _) = _
  rw [h.at60 hn, h.at60 hn, k.hak, notNone, k.hgt]; rfl
theorem cmp_le (hn : n ≤ 60) (x y : α) : cop .le (e x) (e y) = some (!l y x) := by
  show (if alk (e x) (e y) && !isNone (e x) && ok 60 (e x) && ok 60 (e y) then _ else _) = _
  rw [h.at60 hn, h.at60 hn, k.hak, notNone, k.hle]; rfl
theorem cmp_ge (hn : n ≤ 60) (x y : α) : cop .ge (e x) (e y) = some (!l x y) := by
  show (if alk (e x) (e y) && !isNone (e x) && ok 60 (e x) && ok 60 (e y) then _ else _) = _
  rw [h.at60 hn, h.at60 hn, k.hak, notNone, k.hge]; rfl
end
theorem any_map [DecidableEq α] [EqE e] (x : α) : ∀ ys : List α, ((ys.map e).any fun z => PyData.eqv z (e x)) = decide (x ∈ ys)
  | [] => by simp
  | y :: ys => by
    rw [List.map_cons, List.any_cons, any_map x ys, EqE.eq]
    by_cases h : x = y
    · subst h; simp
    · simp [h, Ne.symm h]
theorem cmp_inT [DecidableEq α] [EqE e] {n : Nat} [h : OkE e n] (hd : ∀ x kvs, e x ≠ .dict kvs) (hn : n ≤ 60) (x : α) (ys : List α) : cop .isin (e x) (eT e ys) = some (decide (x ∈ ys)) := by
  have e1 : cop .isin (e x) (eT e ys) = if ok 60 (e x) && okAll 60 (ys.map e) then some ((ys.map e).any fun z => PyData.eqv z (e x)) else none := by
    cases he : e x <;> rfl
  rw [e1, h.at60 hn, okAll_up n 60 _ hn (okAll_map h.ok ys), any_map]; rfl
theorem cmp_ninT [DecidableEq α] [EqE e] {n : Nat} [h : OkE e n] (hn : n ≤ 60) (x : α) (ys : List α) : cop .notin (e x) (eT e ys) = some (!decide (x ∈ ys)) := by
  have e1 : cop .notin (e x) (eT e ys) = if ok 60 (e x) && okAll 60 (ys.map e) then some (!(ys.map e).any fun z => PyData.eqv z (e x)) else none := by
    cases he : e x <;> rfl
  rw [e1, h.at60 hn, okAll_up n 60 _ hn (okAll_map h.ok ys), any_map]; rfl
theorem cmp_inL [DecidableEq α] [EqE e] {n : Nat} [h : OkE e n] (hn : n ≤ 60) (x : α) (ys : List α) : cop .isin (e x) (eL e ys) = some (decide (x ∈ ys)) := by
  have e1 : cop .isin (e x) (eL e ys) = if ok 60 (e x) && okAll 60 (ys.map e) then some ((ys.map e).any fun z => PyData.eqv z (e x)) else none := by
    cases he : e x <;> rfl
  rw [e1, h.at60 hn, okAll_up n 60 _ hn (okAll_map h.ok ys), any_map]; rfl
theorem cmp_ninL [DecidableEq α] [EqE e] {n : Nat} [h : OkE e n] (hn : n ≤ 60) (x : α) (ys : List α) : cop .notin (e x) (eL e ys) = some (!decide (x ∈ ys)) := by
  have e1 : cop .notin (e x) (eL e ys) = if ok 60 (e x) && okAll 60 (ys.map e) then some (!(ys.map e).any fun z => PyData.eqv z (e x)) else none := by
    cases he : e x <;> rfl
  rw [e1, h.at60 hn, okAll_up n 60 _ hn (okAll_map h.ok ys), any_map]; rfl
theorem cmp_isN [nn : NnE e] (x : Option α) (_y : Unit) : cop .iss (eO e x) (eU _y) = some x.isNone := by
  cases x with
  | none => rfl
  | some x =>
    show some (isNone (e x)) = _
    rw [notNone]; rfl
theorem cmp_isnN [nn : NnE e] (x : Option α) (_y : Unit) : cop .isnot (eO e x) (eU _y) = some (!x.isNone) := by
  cases x with
  | none => rfl
  | some x =>
    show some (!isNone (e x)) = _
    rw [notNone]; rfl
theorem cmp_isB (x y : Bool) : cop .iss (eB x) (eB y) = some (x == y) := rfl
theorem atI_map (xs : List α) (i : Int) : L2.atI (xs.map e) i = (L2.atI xs i).map e := by
  unfold L2.atI
  rw [List.length_map]
  cases L2.ixN xs.length i with
  | none => rfl
  | some j => simp
def atT (xs : List α) (i : Int) : Option α := L2.atI xs i
theorem sub_atT (xs : List α) (i : Int) (z : α) (h : atT xs i = some z) : subD (eT e xs) (eI i) = some (e z) := by
  show L2.atI (xs.map e) i = _
  rw [atI_map, show L2.atI xs i = some z from h]; rfl
theorem sub_atL (xs : List α) (i : Int) (z : α) (h : atT xs i = some z) : subD (eL e xs) (eI i) = some (e z) := by
  show L2.atI (xs.map e) i = _
  rw [atI_map, show L2.atI xs i = some z from h]; rfl
theorem fld_p0 (x : α × β) : subD (eP ea eb x) (.int 0) = some (ea x.1) := rfl
theorem fld_p1 (x : α × β) : subD (eP ea eb x) (.int 1) = some (eb x.2) := rfl
theorem fld_30 (x : α × β × γ) : subD (e3 ea eb ec x) (.int 0) = some (ea x.1) := rfl
theorem fld_31 (x : α × β × γ) : subD (e3 ea eb ec x) (.int 1) = some (eb x.2.1) := rfl
theorem fld_32 (x : α × β × γ) : subD (e3 ea eb ec x) (.int 2) = some (ec x.2.2) := rfl
theorem slf_T (xs : List α) (i : Int) : slfD (eT e xs) (.int i) = some (.val (eT e (cutF xs i))) := by
  show some (R.val (.tuple (cutF (xs.map e) i))) = some (R.val (.tuple ((cutF xs i).map e)))
  unfold cutF
  split <;> simp [List.map_drop]
theorem slt_T (xs : List α) (i : Int) : sltD (eT e xs) (.int i) = some (.val (eT e (cutT xs i))) := by
  show some (R.val (.tuple (cutT (xs.map e) i))) = some (R.val (.tuple ((cutT xs i).map e)))
  unfold cutT
  split <;> simp [List.map_take]
theorem bi_lenT (xs : List α) : biD .len [eT e xs] = some (.val (eI (xs.length : Nat))) := by
  show some (R.val (.int ((xs.map e).length : Nat))) = _
  rw [List.length_map]; rfl
theorem bi_lenL (xs : List α) : biD .len [eL e xs] = some (.val (eI (xs.length : Nat))) := by
  show some (R.val (.int ((xs.map e).length : Nat))) = _
  rw [List.length_map]; rfl
theorem boolsD_bools : ∀ xs : List Bool, boolsD (xs.map eB) = some xs
  | [] => rfl
  | x :: xs => by
    show boolsD (.bool x :: xs.map eB) = _
    rw [boolsD, boolsD_bools xs]
theorem intsD_ints : ∀ xs : List Int, intsD (xs.map eI) = some xs
  | [] => rfl
  | x :: xs => by
    show intsD (.int x :: xs.map eI) = _
    rw [intsD, intsD_ints xs]
theorem bi_allL (xs : List Bool) : biD .all [eL eB xs] = some (.val (eB (xs.all id))) := by
  show (boolsD (xs.map eB)).map _ = _
  rw [boolsD_bools]; rfl
theorem bi_anyL (xs : List Bool) : biD .any [eL eB xs] = some (.val (eB (xs.any id))) := by
  show (boolsD (xs.map eB)).map _ = _
  rw [boolsD_bools]; rfl
theorem bi_sumL (xs : List Int) : biD .sum [eL eI xs] = some (.val (eI xs.sum)) := by
  show (intsD (xs.map eI)).map _ = _
  rw [intsD_ints]; rfl
theorem bi_max2 (x y : Int) : biD .max2 [eI x, eI y] = some (.val (eI (if y > x then y else x))) := rfl
theorem bi_min2 (x y : Int) : biD .min2 [eI x, eI y] = some (.val (eI (if y < x then y else x))) := rfl
theorem bi_tupL (xs : List α) : biD .tuple [eL e xs] = some (.val (eT e xs)) := rfl
theorem bi_tupT (xs : List α) : biD .tuple [eT e xs] = some (.val (eT e xs)) := rfl
theorem bi_lstL (xs : List α) : biD .list [eL e xs] = some (.own (xs.map e)) := rfl
theorem bi_lstT (xs : List α) : biD .list [eT e xs] = some (.own (xs.map e)) := rfl
theorem bi_intI (x : Int) : biD .int [eI x] = some (.val (eI x)) := rfl
end
end Ev

set_option Elab.async false
set_option linter.all false
set_option maxRecDepth 100000
set_option maxHeartbeats 1000000
/-! EvT4: versions, parts and ranges as typed values. -/
namespace Ev
open PySem
abbrev Num := Int × Int × Int
abbrev Ver := Num × List Item
abbrev eN : Enc Num := e3 eI eI eI
abbrev eV : Enc Ver := eP eN (eT eIt)
/-- what a part names: first numbers, or a version -/
inductive Own where
  | nums (xs : List Int)
  | ver (v : Ver)
  deriving DecidableEq
def eOwn : Enc Own
  | .nums xs => eT eI xs
  | .ver v => eV v
abbrev Part := Tx × Own
abbrev Range := List (List Part)
def asNums : Own → Option (List Int)
  | .nums xs => some xs
  | _ => none
def asVer : Own → Option Ver
  | .ver v => some v
  | _ => none
theorem own_nums (x : Own) (y : List Int) (h : asNums x = some y) : eOwn x = eT eI y := by
  cases x <;> simp [asNums] at h <;> rw [h] <;> rfl
theorem own_ver (x : Own) (y : Ver) (h : asVer x = some y) : eOwn x = eV y := by
  cases x <;> simp [asVer] at h <;> rw [h] <;> rfl
def numL (n : Num) : List Int := [n.1, n.2.1, n.2.2]
def asNum : List Int → Option Num
  | [a, b, c] => some (a, b, c)
  | _ => none
theorem asNum_ok (x : List Int) (y : Num) (h : asNum x = some y) : eT eI x = eN y := by
  match x, h with
  | [a, b, c], h => cases h; rfl
def itNum : Item → Option Int
  | .num i => some i
  | _ => none
def itWord : Item → Option Tx
  | .word s => some s
  | _ => none
theorem itNum_ok (x : Item) (y : Int) (h : itNum x = some y) : eIt x = eI y := by
  cases x <;> simp [itNum] at h <;> rw [h] <;> rfl
theorem itWord_ok (x : Item) (y : Tx) (h : itWord x = some y) : eIt x = eS y := by
  cases x <;> simp [itWord] at h <;> rw [h] <;> rfl
def isWordT : Item → Bool
  | .word _ => true
  | _ => false
instance : NnE eOwn := ⟨fun x h => by cases x <;> exact nomatch h⟩
section
variable {Φ : Call} {Γ : Str → Option D} {ρ : Env} {α β γ δ : Type} {e : Enc α} {ea : Enc α} {eb : Enc β}
theorem isi_word {a : T} {ma : M Item} (ha : Sk (ev Φ Γ a ρ) eIt ma) : Sv (ev Φ Γ (.isi a ["str"]) ρ) eB (bnd ma fun x => ret (isWordT x)) := fun t z t' e => by
  obtain ⟨x, t1, e1, e⟩ := bnd_inv e
  obtain ⟨rfl, rfl⟩ := ret_inv e
  obtain ⟨r1, h1, k1⟩ := ha _ _ _ e1
  rw [ev, bnd_at h1, k1]
  cases x <;> rfl
/-- a displayed dict, looked up -/
def dcT (kvs : List (Tx × α)) (k : Tx) : Option α := (kvs.find? fun p => p.1 = k).map (·.2)
theorem sub_dc (kvs : List (Tx × α)) (k : Tx) (z : α) (h : dcT kvs k = some z) : subD (eDc e kvs) (eS k) = some (e z) := by
  show lookS k.1 (kvs.map fun p => (.str p.1.1, e p.2)) = _
  induction kvs with
  | nil => cases h
  | cons p r ih =>
    unfold dcT at h ih
    rw [List.map_cons, lookS]
    rw [List.find?_cons] at h
    by_cases hk : p.1 = k
    · subst hk
      rw [show beqS p.1.1 p.1.1 = true from decide_eq_true rfl]
      simp only [decide_true] at h
      cases h
      rfl
    · rw [show beqS p.1.1 k.1 = false from decide_eq_false fun z => hk (Subtype.ext z)]
      simp only [hk, decide_false] at h
      exact ih h
def LenM (m : M (List α)) (n : Nat) : Prop := ∀ t xs t', m t = some (xs, t') → n = xs.length
theorem LenM.nil : LenM (ret ([] : List α)) 0 := fun t xs t' h => by obtain ⟨rfl, rfl⟩ := ret_inv h; rfl
theorem LenM.cons {ma : M α} {ms : M (List α)} {n : Nat} (h : LenM ms n) : LenM (bnd ma fun x => bnd ms fun xs => ret (x :: xs)) (n + 1) := fun t xs t' e => by
  obtain ⟨x, t1, e1, e⟩ := bnd_inv e
  obtain ⟨ys, t2, e2, e⟩ := bnd_inv e
  obtain ⟨rfl, rfl⟩ := ret_inv e
  simp [h _ _ _ e2]
theorem It.enumL {a : T} {ml : M (List α)} (ha : Sf (ev Φ Γ a ρ) (eL ea) ml) {st : Bool} : It (evi Φ Γ st (.enum a) ρ) (eP eI ea) (bnd ml fun x => ret (enumT 0 x)) := fun t z t' e => by
  obtain ⟨x, t1, e1, e⟩ := bnd_inv e
  obtain ⟨rfl, rfl⟩ := ret_inv e
  obtain ⟨r1, h1, k1⟩ := ha _ _ _ e1
  rw [evi, bnd_at h1, seen_fix k1, ← enumD_map]
  rfl
end
end Ev

set_option Elab.async false
set_option linter.all false
set_option maxRecDepth 100000
set_option maxHeartbeats 1000000
/-! EvT5: typed runs made plain; their ends; orders. -/
namespace Ev
open PySem
section
variable {α β γ σ ω : Type}
theorem bnd_assoc {m : M α} {f : α → M β} {g : β → M γ} : bnd (bnd m f) g = bnd m fun x => bnd (f x) g := by
  funext t
  unfold bnd
  cases m t <;> rfl
theorem bnd_ret_r {m : M α} : (bnd m fun x => ret x) = m := by
  funext t
  unfold bnd
  cases m t <;> rfl
theorem ite_ret {c : Prop} [Decidable c] {a b : α} : (if c then ret a else ret b) = ret (if c then a else b) := by split <;> rfl
theorem bool_and {p q : Bool} : (if p = true then ret q else ret false) = ret (p && q) := by cases p <;> rfl
theorem bool_or {p q : Bool} : (if p = true then ret true else ret q) = ret (p || q) := by cases p <;> rfl
theorem mapT_ret {f : α → β} : ∀ xs : List α, mapT (fun x => ret (f x)) xs = ret (xs.map f)
  | [] => rfl
  | x :: xs => by rw [mapT, bnd_ret, mapT_ret xs]; rfl
theorem filT_ret {p : α → Bool} {f : α → β} : ∀ xs : List α, filT (fun x => ret (p x)) (fun x => ret (f x)) xs = ret ((xs.filter p).map f)
  | [] => rfl
  | x :: xs => by
    rw [filT, bnd_ret, bnd_ret, filT_ret xs, List.filter_cons]
    cases p x <;> rfl
theorem filT_id {p : α → Bool} (xs : List α) : filT (fun x => ret (p x)) (fun x => ret x) xs = ret (xs.filter p) := by
  rw [show (fun x : α => (ret x : M α)) = fun x => ret (id x) from rfl, filT_ret]
  simp
theorem mapT_id (xs : List α) : mapT (fun x => ret x) xs = ret xs := by
  rw [show (fun x : α => (ret x : M α)) = fun x => ret (id x) from rfl, mapT_ret]
  simp
theorem outT_inr {k : σ → M ω} {s : σ} : outT k (.inr s) = k s := rfl
theorem outT_inl {k : σ → M ω} {s : ω} : outT k (.inl s) = ret s := rfl
theorem flatT_ret {p : α → Bool} {f : α → List β} : ∀ xs : List α, flatT (fun x => ret (p x)) (fun x => ret (f x)) xs = ret ((xs.filter p).map f).flatten
  | [] => rfl
  | x :: xs => by
    rw [flatT, bnd_ret, bnd_ret, flatT_ret xs, List.filter_cons]
    cases p x <;> rfl
theorem foldT_ret {f : σ → α → σ} : ∀ (xs : List α) (s : σ), foldT (fun s x => ret (f s x)) xs s = ret (xs.foldl f s)
  | [], s => rfl
  | x :: xs, s => by rw [foldT, bnd_ret, foldT_ret xs]; rfl
/-- .. where what is done is plain at these items -/
theorem mapT_of {f : α → M β} {g : α → β} : ∀ xs : List α, (∀ x ∈ xs, f x = ret (g x)) → mapT f xs = ret (xs.map g)
  | [], _ => rfl
  | x :: xs, h => by rw [mapT, h x List.mem_cons_self, bnd_ret, mapT_of xs fun y hy => h y (List.mem_cons_of_mem _ hy)]; rfl
theorem filT_of {p : α → M Bool} {f : α → M β} {q : α → Bool} {g : α → β} : ∀ xs : List α, (∀ x ∈ xs, p x = ret (q x)) → (∀ x ∈ xs, q x = true → f x = ret (g x)) → filT p f xs = ret ((xs.filter q).map g)
  | [], _, _ => rfl
  | x :: xs, h, h' => by
    rw [filT, h x List.mem_cons_self, bnd_ret, filT_of xs (fun y hy => h y (List.mem_cons_of_mem _ hy)) fun y hy => h' y (List.mem_cons_of_mem _ hy), List.filter_cons]
    cases hq : q x with
    | true => simp only [if_true]; rw [h' x List.mem_cons_self hq, bnd_ret, bnd_ret]; rfl
    | false => rfl
theorem flatT_of {p : α → M Bool} {f : α → M (List β)} {q : α → Bool} {g : α → List β} : ∀ xs : List α, (∀ x ∈ xs, p x = ret (q x)) → (∀ x ∈ xs, q x = true → f x = ret (g x)) → flatT p f xs = ret ((xs.filter q).map g).flatten
  | [], _, _ => rfl
  | x :: xs, h, h' => by
    rw [flatT, h x List.mem_cons_self, bnd_ret, flatT_of xs (fun y hy => h y (List.mem_cons_of_mem _ hy)) fun y hy => h' y (List.mem_cons_of_mem _ hy), List.filter_cons]
    cases hq : q x with
    | true => simp only [if_true]; rw [h' x List.mem_cons_self hq, bnd_ret, bnd_ret]; rfl
    | false => rfl
/-- a fold whose steps are plain where an invariant holds -/
theorem foldT_of {f : σ → α → M σ} {g : σ → α → σ} (I : σ → Prop) : ∀ (xs : List α) (s : σ), I s → (∀ s, I s → ∀ x ∈ xs, f s x = ret (g s x) ∧ I (g s x)) → foldT f xs s = ret (xs.foldl g s)
  | [], s, _, _ => rfl
  | x :: xs, s, hs, h => by
    obtain ⟨h1, h2⟩ := h s hs x List.mem_cons_self
    rw [foldT, h1, bnd_ret, foldT_of I xs (g s x) h2 fun s hs y hy => h s hs y (List.mem_cons_of_mem _ hy)]
    rfl
/-- .. a step that knows how far it is -/
theorem foldT_ix {f : σ → α → M σ} {g : σ → α → σ} (I : Nat → σ → Prop) (xs : List α) (s : σ) (h0 : I 0 s) (h : ∀ i s x, xs[i]? = some x → I i s → f s x = ret (g s x) ∧ I (i + 1) (g s x)) : foldT f xs s = ret (xs.foldl g s) ∧ I xs.length (xs.foldl g s) := by
  have key : ∀ (n i : Nat) (s : σ), xs.length - i = n → i ≤ xs.length → I i s → foldT f (xs.drop i) s = ret ((xs.drop i).foldl g s) ∧ I xs.length ((xs.drop i).foldl g s) := by
    intro n
    induction n with
    | zero =>
      intro i s hn hi hI
      have : i = xs.length := by omega
      subst this
      rw [List.drop_length]
      exact ⟨rfl, hI⟩
    | succ n ih =>
      intro i s hn hi hI
      have hlt : i < xs.length := by omega
      obtain ⟨h1, h2⟩ := h i s _ (List.getElem?_eq_getElem hlt) hI
      rw [List.drop_eq_getElem_cons hlt, foldT, h1, bnd_ret]
      exact ih (i + 1) (g s xs[i]) (by omega) hlt h2
  have := key xs.length 0 s rfl (Nat.zero_le _) h0
  rwa [List.drop_zero] at this
/-! ends of runs with draws -/
theorem okT_fold {f : σ → α → M σ} (I : σ → Tape → Prop) : ∀ (xs : List α) (s : σ) (t : Tape), I s t → (∀ x ∈ xs, ∀ s t, I s t → Ok (f s x) t I) → Ok (foldT f xs s) t I
  | [], s, t, h, _ => ok_ret.mpr h
  | x :: xs, s, t, h, k => by
    rw [foldT, ok_bnd]
    exact (k x List.mem_cons_self s t h).mono fun s' t' h' => okT_fold I xs s' t' h' fun y hy => k y (List.mem_cons_of_mem _ hy)
theorem okT_for {f : σ → α → M (ω ⊕ σ)} (I : σ → Tape → Prop) : ∀ (xs : List α) (s : σ) (t : Tape), I s t → (∀ x ∈ xs, ∀ s t, I s t → Ok (f s x) t fun o t' => ∃ s', o = .inr s' ∧ I s' t') → Ok (forT f xs s) t fun o t' => ∃ s', o = .inr s' ∧ I s' t'
  | [], s, t, h, _ => ok_ret.mpr ⟨s, rfl, h⟩
  | x :: xs, s, t, h, k => by
    rw [forT, ok_bnd]
    refine (k x List.mem_cons_self s t h).mono ?_
    rintro _ t' ⟨s', rfl, h'⟩
    exact okT_for I xs s' t' h' fun y hy => k y (List.mem_cons_of_mem _ hy)
/-- .. where it counts its turns -/
theorem okT_foldN {f : σ → α → M σ} (I : Nat → σ → Tape → Prop) : ∀ (xs : List α) (i : Nat) (s : σ) (t : Tape), I i s t → (∀ x ∈ xs, ∀ j s t, j < i + xs.length → I j s t → Ok (f s x) t (I (j + 1))) → Ok (foldT f xs s) t (I (i + xs.length))
  | [], i, s, t, h, _ => ok_ret.mpr h
  | x :: xs, i, s, t, h, k => by
    rw [foldT, ok_bnd]
    refine (k x List.mem_cons_self i s t (by simp) h).mono fun s' t' h' => ?_
    have := okT_foldN I xs (i + 1) s' t' h' fun y hy j s t hj => k y (List.mem_cons_of_mem _ hy) j s t (by rw [List.length_cons]; omega)
    rw [List.length_cons, show i + (xs.length + 1) = i + 1 + xs.length by omega]
    exact this
theorem okT_map {f : α → M β} (I : Tape → Prop) (Q : β → Prop) : ∀ (xs : List α) (t : Tape), I t → (∀ x ∈ xs, ∀ t, I t → Ok (f x) t fun y t' => Q y ∧ I t') → Ok (mapT f xs) t fun ys t' => ys.length = xs.length ∧ (∀ y ∈ ys, Q y) ∧ I t'
  | [], t, h, _ => ok_ret.mpr ⟨rfl, by simp, h⟩
  | x :: xs, t, h, k => by
    rw [mapT, ok_bnd]
    refine (k x List.mem_cons_self t h).mono ?_
    rintro y t1 ⟨hy, h1⟩
    rw [ok_bnd]
    refine (okT_map I Q xs t1 h1 fun z hz => k z (List.mem_cons_of_mem _ hz)).mono ?_
    rintro ys t2 ⟨h2, h3, h4⟩
    exact ok_ret.mpr ⟨by simp [h2], fun z hz => by
      rcases List.mem_cons.mp hz with rfl | hz
      · exact hy
      · exact h3 z hz, h4⟩
theorem ok_pure {m : M α} {x : α} {t : Tape} {Q : α → Tape → Prop} (h : m = ret x) (q : Q x t) : Ok m t Q := by rw [h]; exact ok_ret.mpr q
theorem fitT_ok {xs : List α} (h : xs.length ≤ big) : fitT xs = some xs := if_pos h
theorem catT_ok {xs ys : List α} (h : xs.length + ys.length ≤ big) : catT xs ys = some (xs ++ ys) := if_pos h
theorem atT_get {xs : List α} {i : Int} (h0 : 0 ≤ i) (h1 : i < xs.length) : ∃ x, atT xs i = some x ∧ x ∈ xs := by
  have hl : i.toNat < xs.length := by omega
  refine ⟨xs[i.toNat], ?_, List.getElem_mem hl⟩
  unfold atT L2.atI L2.ixN
  rw [if_pos h0, if_pos h1]
  simp [hl]
theorem rangeT_ok {n : Nat} (h : n ≤ big) : rangeT (n : Nat) = some ((List.range n).map Int.ofNat) := by
  unfold rangeT
  rw [if_pos (by omega)]
  simp
end
theorem fit0 {α : Type} : fitT ([] : List α) = some [] := if_pos (by simp [big])
theorem fit1 {α : Type} {x0 : α} : fitT [x0] = some [x0] := if_pos (by simp [big])
theorem fit2 {α : Type} {x0 x1 : α} : fitT [x0, x1] = some [x0, x1] := if_pos (by simp [big])
theorem fit3 {α : Type} {x0 x1 x2 : α} : fitT [x0, x1, x2] = some [x0, x1, x2] := if_pos (by simp [big])
theorem fit4 {α : Type} {x0 x1 x2 x3 : α} : fitT [x0, x1, x2, x3] = some [x0, x1, x2, x3] := if_pos (by simp [big])
theorem fit5 {α : Type} {x0 x1 x2 x3 x4 : α} : fitT [x0, x1, x2, x3, x4] = some [x0, x1, x2, x3, x4] := if_pos (by simp [big])
theorem fit6 {α : Type} {x0 x1 x2 x3 x4 x5 : α} : fitT [x0, x1, x2, x3, x4, x5] = some [x0, x1, x2, x3, x4, x5] := if_pos (by simp [big])
theorem fit7 {α : Type} {x0 x1 x2 x3 x4 x5 x6 : α} : fitT [x0, x1, x2, x3, x4, x5, x6] = some [x0, x1, x2, x3, x4, x5, x6] := if_pos (by simp [big])
theorem fit8 {α : Type} {x0 x1 x2 x3 x4 x5 x6 x7 : α} : fitT [x0, x1, x2, x3, x4, x5, x6, x7] = some [x0, x1, x2, x3, x4, x5, x6, x7] := if_pos (by simp [big])
theorem fit9 {α : Type} {x0 x1 x2 x3 x4 x5 x6 x7 x8 : α} : fitT [x0, x1, x2, x3, x4, x5, x6, x7, x8] = some [x0, x1, x2, x3, x4, x5, x6, x7, x8] := if_pos (by simp [big])
theorem fit10 {α : Type} {x0 x1 x2 x3 x4 x5 x6 x7 x8 x9 : α} : fitT [x0, x1, x2, x3, x4, x5, x6, x7, x8, x9] = some [x0, x1, x2, x3, x4, x5, x6, x7, x8, x9] := if_pos (by simp [big])
theorem fit11 {α : Type} {x0 x1 x2 x3 x4 x5 x6 x7 x8 x9 x10 : α} : fitT [x0, x1, x2, x3, x4, x5, x6, x7, x8, x9, x10] = some [x0, x1, x2, x3, x4, x5, x6, x7, x8, x9, x10] := if_pos (by simp [big])
theorem fit12 {α : Type} {x0 x1 x2 x3 x4 x5 x6 x7 x8 x9 x10 x11 : α} : fitT [x0, x1, x2, x3, x4, x5, x6, x7, x8, x9, x10, x11] = some [x0, x1, x2, x3, x4, x5, x6, x7, x8, x9, x10, x11] := if_pos (by simp [big])
/-! ### the law's own drawing list -/
def tape0 (ns : List Int) : Tape := [.list (ns.map PyData.int), .int 0, .int 0]
theorem Ex.tape {ω : Type} {Φ : Call} {Γ : Str → Option D} {ρ : Env} {Z : ω → Out → Prop} {m : M ω} {ss : Ss} {i : Nat} {ns : List Int} (hs : slot ρ 0 = some (.val (eL eI ns))) (hl : i < ρ.length) (hk : Ex (exSs Φ Γ ss ρ) Z m) :
    Ex (exSs Φ Γ (.cons (.tini i (.lst (.cons (.bi .list (.cons (.var 0) .nil)) (.cons (.cst (.int 0)) (.cons (.cst (.int 0)) .nil))))) ss) ρ) Z (fun _ => m (tape0 ns)) := fun t o t' h => by
  obtain ⟨q, h3, hz⟩ := hk _ _ _ h
  refine ⟨q, ?_, hz⟩
  have e1 : ev Φ Γ (.lst (.cons (.bi .list (.cons (.var 0) .nil)) (.cons (.cst (.int 0)) (.cons (.cst (.int 0)) .nil)))) ρ t = some (.own (tape0 ns), t) := by
    simp only [ev, evs, hs]
    rfl
  have e2 : exS Φ Γ (.tini i (.lst (.cons (.bi .list (.cons (.var 0) .nil)) (.cons (.cst (.int 0)) (.cons (.cst (.int 0)) .nil))))) ρ t = some ((none, ρ), tape0 ns) := by
    rw [exS, bnd_at e1]
    show (if i < ρ.length then _ else _) = _
    rw [if_pos hl]
    rfl
  rw [exSs, bnd_at e2]
  exact h3
/-! ### orders -/
class LinO {α : Type} (l : α → α → Bool) : Prop where
  irr : ∀ x, l x x = false
  tr : ∀ {x y z}, l x y = true → l y z = true → l x z = true
  tot : ∀ {x y}, l x y = false → l y x = false → x = y
theorem LinO.asym {α : Type} {l : α → α → Bool} (L : LinO l) {x y : α} (h : l x y = true) : l y x = false := by
  cases e : l y x with
  | false => rfl
  | true => have := L.tr h e; rw [L.irr] at this; cases this
instance : LinO ltI where
  irr := fun x => decide_eq_false (by omega)
  tr := fun h k => by
    unfold ltI at *
    rw [decide_eq_true_eq] at *
    omega
  tot := fun h k => by
    unfold ltI at *
    rw [decide_eq_false_iff_not] at *
    omega
instance : LinO ltB where
  irr := fun x => decide_eq_false (List.lt_irrefl _)
  tr := fun h k => by
    unfold ltB at *
    rw [decide_eq_true_eq] at *
    exact List.lt_trans h k
  tot := fun {x y} h k => by
    unfold ltB at *
    rw [decide_eq_false_iff_not] at *
    have e : x.1.cps.toList = y.1.cps.toList := List.le_antisymm k h
    apply Subtype.ext
    cases hx : x.1
    cases hy : y.1
    rw [hx, hy] at e
    simp only [PySem.Str.mk.injEq]
    exact Array.toList_inj.mp e
section
variable {α β γ : Type} [DecidableEq α] [DecidableEq β] [DecidableEq γ] {l : α → α → Bool} {r : β → β → Bool} {q : γ → γ → Bool}
instance [L : LinO l] [R : LinO r] : LinO (ltP l r) where
  irr := fun x => by simp [ltP, R.irr]
  tr := fun {x y z} h k => by
    unfold ltP at *
    by_cases e1 : x.1 = y.1
    · by_cases e2 : y.1 = z.1
      · simp only [e1, e2, if_true] at *
        exact R.tr h k
      · rw [if_neg e2] at k
        rw [if_neg (by rw [e1]; exact e2), e1]
        exact k
    · rw [if_neg e1] at h
      by_cases e2 : y.1 = z.1
      · rw [if_neg (by rw [← e2]; exact e1), ← e2]
        exact h
      · rw [if_neg e2] at k
        have := L.tr h k
        rw [if_neg (fun z => by rw [z, L.irr] at this; cases this)]
        exact this
  tot := fun {x y} h k => by
    unfold ltP at *
    by_cases e1 : x.1 = y.1
    · rw [if_pos e1] at h
      rw [if_pos e1.symm] at k
      exact Prod.ext e1 (R.tot h k)
    · rw [if_neg e1] at h
      rw [if_neg (Ne.symm e1)] at k
      exact absurd (L.tot h k) e1
theorem lt3_ltP (x y : α × β × γ) : lt3 l r q x y = ltP l (ltP r q) x y := by
  unfold lt3 ltP
  rfl
instance [L : LinO l] [R : LinO r] [Q : LinO q] : LinO (lt3 l r q) where
  irr := fun x => by rw [lt3_ltP]; exact LinO.irr x
  tr := fun {x y z} h k => by rw [lt3_ltP] at *; exact LinO.tr h k
  tot := fun {x y} h k => by rw [lt3_ltP] at *; exact LinO.tot h k
theorem ltL_tr [L : LinO l] : ∀ {xs ys zs : List α}, ltL l xs ys = true → ltL l ys zs = true → ltL l xs zs = true
  | [], [], _, h, _ => by simp [ltL] at h
  | [], _ :: _, [], _, k => by simp [ltL] at k
  | [], _ :: _, _ :: _, _, _ => by simp [ltL]
  | _ :: _, [], _, h, _ => by simp [ltL] at h
  | _ :: _, _ :: _, [], _, k => by simp [ltL] at k
  | x :: xs, y :: ys, z :: zs, h, k => by
    rw [ltL] at h k ⊢
    by_cases e1 : x = y
    · by_cases e2 : y = z
      · rw [if_pos e1] at h
        rw [if_pos e2] at k
        rw [if_pos (e1.trans e2)]
        exact ltL_tr h k
      · rw [if_neg e2] at k
        rw [if_neg (by rw [e1]; exact e2), e1]
        exact k
    · rw [if_neg e1] at h
      by_cases e2 : y = z
      · rw [if_neg (by rw [← e2]; exact e1), ← e2]
        exact h
      · rw [if_neg e2] at k
        have := L.tr h k
        rw [if_neg (fun z => by rw [z, L.irr] at this; cases this)]
        exact this
theorem ltL_tot [L : LinO l] : ∀ {xs ys : List α}, ltL l xs ys = false → ltL l ys xs = false → xs = ys
  | [], [], _, _ => rfl
  | [], _ :: _, h, _ => by simp [ltL] at h
  | _ :: _, [], _, k => by simp [ltL] at k
  | x :: xs, y :: ys, h, k => by
    rw [ltL] at h k
    by_cases e1 : x = y
    · rw [if_pos e1] at h
      rw [if_pos e1.symm] at k
      rw [e1, ltL_tot h k]
    · rw [if_neg e1] at h
      rw [if_neg (Ne.symm e1)] at k
      exact absurd (L.tot h k) e1
instance [L : LinO l] : LinO (ltL l) where
  irr := ltL_irr L.irr
  tr := ltL_tr
  tot := ltL_tot
end
end Ev

set_option Elab.async false
set_option linter.all false
set_option maxRecDepth 100000
set_option maxHeartbeats 1000000
/-! EvT6: sorted, max and min by keys, sets, over typed values. -/
namespace Ev
open PySem
section
variable {α β γ δ : Type}
def maxT : List Int → Option Int
  | [] => none
  | i :: is => some (is.foldl max i)
theorem bi_max1T (x : List Int) (z : Int) (h : maxT x = some z) : biD .max1 [eT eI x] = some (.val (eI z)) := by
  show (match intsD (x.map eI) with
    | some (i :: is) => some (R.val (.int (is.foldl max i)))
    | _ => none) = _
  rw [intsD_ints]
  cases x with
  | nil => cases h
  | cons i is => cases h; rfl
theorem bi_max1L (x : List Int) (z : Int) (h : maxT x = some z) : biD .max1 [eL eI x] = some (.val (eI z)) := by
  show (match intsD (x.map eI) with
    | some (i :: is) => some (R.val (.int (is.foldl max i)))
    | _ => none) = _
  rw [intsD_ints]
  cases x with
  | nil => cases h
  | cons i is => cases h; rfl
/-- can be a key -/
class KeyE (e : Enc α) : Prop where
  ky : ∀ x, keyD (e x) = true
instance : KeyE eI := ⟨fun _ => rfl⟩
instance : KeyE eS := ⟨fun _ => rfl⟩
instance {a : Enc α} {b : Enc β} : KeyE (eP a b) := ⟨fun _ => rfl⟩
instance {a : Enc α} {b : Enc β} {c : Enc γ} : KeyE (e3 a b c) := ⟨fun _ => rfl⟩
instance {a : Enc α} : KeyE (eL a) := ⟨fun _ => rfl⟩
def keysT (f : α → Option β) : List α → Option (List β)
  | [] => some []
  | x :: xs => match f x, keysT f xs with
    | some k, some ks => some (k :: ks)
    | _, _ => none
def sortP (l : β → β → Bool) (ps : List (β × α)) : List (β × α) := ps.mergeSort fun p q => !l q.1 p.1
def srtT (f : α → Option β) (l : β → β → Bool) (xs : List α) : Option (List α) := (keysT f xs).map fun ks => (sortP l (ks.zip xs)).map (·.2)
def bestP (mx : Bool) (l : β → β → Bool) : β × α → List (β × α) → β × α
  | b, [] => b
  | b, p :: r => if (if mx then l b.1 p.1 else l p.1 b.1) then bestP mx l p r else bestP mx l b r
def bestT (mx : Bool) (f : α → Option β) (l : β → β → Bool) (xs : List α) : Option α := (keysT f xs).bind fun ks => match ks.zip xs with
  | [] => none
  | p :: ps => some (bestP mx l p ps).2
section
variable {Φ : Call} {Γ : Str → Option D} {ρ : Env} {ea : Enc α} {eb : Enc β} {f : Str} {tf : α → Option β} {l : β → β → Bool}
theorem keys_of (hf : ∀ x, Fv Φ f [ea x] (wv eb) (tf x)) : ∀ {xs : List α} {ks : List β}, keysT tf xs = some ks → keysOf Φ f (xs.map ea) = some (ks.map eb)
  | [], ks, h => by cases h; rfl
  | x :: xs, ks, h => by
    unfold keysT at h
    split at h
    · rename_i k ks' h1 h2
      cases h
      obtain ⟨t', h3⟩ := hf x _ h1
      rw [List.map_cons, keysOf, h3]
      simp only [wv, R.fix]
      rw [keys_of hf h2]
      rfl
    · cases h
theorem keysT_len : ∀ {xs : List α} {ks : List β}, keysT tf xs = some ks → ks.length = xs.length
  | [], ks, h => by cases h; rfl
  | x :: xs, ks, h => by
    unfold keysT at h
    split at h
    · rename_i k ks' h1 h2
      cases h
      simp [keysT_len h2]
    · cases h
theorem sorts_map (l : β → β → Bool) [k : LtE eb l] [KeyE eb] {n : Nat} [h : OkE eb n] (hn : n ≤ 60) (ks : List β) : sortsOk (ks.map eb) = true := by
  unfold sortsOk
  rw [Bool.and_eq_true, Bool.and_eq_true, okAll_up n 60 _ hn (okAll_map h.ok ks)]
  refine ⟨⟨?_, rfl⟩, ?_⟩
  · rw [List.all_eq_true]
    intro a ha
    rw [List.all_eq_true]
    intro b hb
    obtain ⟨x, _, rfl⟩ := List.mem_map.mp ha
    obtain ⟨y, _, rfl⟩ := List.mem_map.mp hb
    exact k.hak x y
  · rw [List.all_eq_true]
    intro a ha
    obtain ⟨x, _, rfl⟩ := List.mem_map.mp ha
    exact KeyE.ky x
variable [LtE eb l] [KeyE eb] {n : Nat} [h : OkE eb n]
theorem sortK_map (ks : List β) (xs : List α) : (sortK ((ks.map eb).zip (xs.map ea))).map (·.2) = ((sortP l (ks.zip xs)).map (·.2)).map ea := by
  have e : (ks.map eb).zip (xs.map ea) = (ks.zip xs).map fun p => (eb p.1, ea p.2) := by rw [List.zip_map]; rfl
  unfold sortK sortP
  rw [e, ← List.map_mergeSort (r := fun p q => !l q.1 p.1) (f := fun p : β × α => (eb p.1, ea p.2)), List.map_map, List.map_map]
  · rfl
  · intro p _ q _
    show _ = !ordD .lt (eb q.1) (eb p.1)
    rw [LtE.hlt (lt := l)]
theorem bestK_map (mx : Bool) : ∀ (ps : List (β × α)) (b : β × α), bestK mx (eb b.1, ea b.2) (ps.map fun p => (eb p.1, ea p.2)) = (eb (bestP mx l b ps).1, ea (bestP mx l b ps).2)
  | [], b => by rw [List.map_nil, bestK, bestP]
  | p :: ps, b => by
    have e : (if mx then ltD (eb b.1) (eb p.1) else ltD (eb p.1) (eb b.1)) = (if mx then l b.1 p.1 else l p.1 b.1) := by
      show (if mx then ordD .lt (eb b.1) (eb p.1) else ordD .lt (eb p.1) (eb b.1)) = _
      rw [LtE.hlt (lt := l), LtE.hlt (lt := l)]
    show (if (if mx then ltD (eb b.1) (eb p.1) else ltD (eb p.1) (eb b.1)) then bestK mx (eb p.1, ea p.2) _ else bestK mx (eb b.1, ea b.2) _) = (eb (if (if mx then l b.1 p.1 else l p.1 b.1) then bestP mx l p ps else bestP mx l b ps).1, ea (if (if mx then l b.1 p.1 else l p.1 b.1) then bestP mx l p ps else bestP mx l b ps).2)
    rw [e]
    cases (if mx then l b.1 p.1 else l p.1 b.1) with
    | true => exact bestK_map mx ps p
    | false => exact bestK_map mx ps b
include h in
theorem So.srtL {a : T} {ml : M (List α)} (hn : n ≤ 60) (hf : ∀ x, Fv Φ f [ea x] (wv eb) (tf x)) (ha : Sk (ev Φ Γ a ρ) (eL ea) ml) : So (ev Φ Γ (.srt a f) ρ) ea (bnd ml fun xs => lift (srtT tf l xs)) := fun t z t' e => by
  obtain ⟨xs, t1, e1, e⟩ := bnd_inv e
  obtain ⟨e3, rfl⟩ := lift_inv e
  obtain ⟨r1, h1, k1⟩ := ha _ _ _ e1
  unfold srtT at e3
  obtain ⟨ks, h2, rfl⟩ := Option.map_eq_some_iff.mp e3
  rw [ev, bnd_at h1, k1]
  show lift ((keysOf Φ f (xs.map ea)).bind _) _ = _
  rw [keys_of hf h2]
  show lift (if sortsOk (ks.map eb) then some (R.own ((sortK ((ks.map eb).zip (xs.map ea))).map (·.2))) else none) _ = _
  rw [sorts_map l hn, sortK_map (l := l)]
  rfl
include h in
theorem Sv.bestL {a : T} {mx : Bool} {ml : M (List α)} (hn : n ≤ 60) (hf : ∀ x, Fv Φ f [ea x] (wv eb) (tf x)) (ha : Sk (ev Φ Γ a ρ) (eL ea) ml) : Sv (ev Φ Γ (.best mx a f) ρ) ea (bnd ml fun xs => lift (bestT mx tf l xs)) := fun t z t' e => by
  obtain ⟨xs, t1, e1, e⟩ := bnd_inv e
  obtain ⟨e3, rfl⟩ := lift_inv e
  obtain ⟨r1, h1, k1⟩ := ha _ _ _ e1
  unfold bestT at e3
  obtain ⟨ks, h2, e4⟩ := Option.bind_eq_some_iff.mp e3
  rw [ev, bnd_at h1, k1]
  show lift ((keysOf Φ f (xs.map ea)).bind _) _ = _
  rw [keys_of hf h2]
  show lift (if sortsOk (ks.map eb) then (match (ks.map eb).zip (xs.map ea) with
    | [] => none
    | p :: ps => some (R.val (bestK mx p ps).2)) else none) _ = _
  rw [sorts_map l hn]
  have e5 : (ks.map eb).zip (xs.map ea) = (ks.zip xs).map fun p => (eb p.1, ea p.2) := by rw [List.zip_map]; rfl
  rw [e5]
  cases hz : ks.zip xs with
  | nil => rw [hz] at e4; cases e4
  | cons p ps =>
    rw [hz] at e4
    cases e4
    show lift (if true = true then some (R.val (bestK mx (eb p.1, ea p.2) (ps.map fun p => (eb p.1, ea p.2))).2) else none) _ = _
    rw [bestK_map (l := l)]
    rfl
end
/-! ### among -/
def memT [DecidableEq α] (x : α) (ys : List α) : Bool := decide (x ∈ ys)
theorem memT_iff [DecidableEq α] {x : α} {ys : List α} : memT x ys = true ↔ x ∈ ys := decide_eq_true_iff
theorem memT_not [DecidableEq α] {x : α} {ys : List α} : memT x ys = false ↔ x ∉ ys := decide_eq_false_iff_not
section
variable {e : Enc α} [DecidableEq α] [EqE e] {n : Nat} [h : OkE e n]
include h
theorem cm_inT (hd : ∀ x kvs, e x ≠ .dict kvs) (hn : n ≤ 60) (x : α) (ys : List α) : cop .isin (e x) (eT e ys) = some (memT x ys) := by
  rw [cmp_inT hd hn]
  exact congrArg some (by unfold memT; exact Bool.eq_iff_iff.mpr (by simp))
theorem cm_ninT (hn : n ≤ 60) (x : α) (ys : List α) : cop .notin (e x) (eT e ys) = some (!memT x ys) := by
  rw [cmp_ninT hn]
  exact congrArg some (by unfold memT; exact Bool.eq_iff_iff.mpr (by simp))
theorem cm_inL (hn : n ≤ 60) (x : α) (ys : List α) : cop .isin (e x) (eL e ys) = some (memT x ys) := by
  rw [cmp_inL hn]
  exact congrArg some (by unfold memT; exact Bool.eq_iff_iff.mpr (by simp))
theorem cm_ninL (hn : n ≤ 60) (x : α) (ys : List α) : cop .notin (e x) (eL e ys) = some (!memT x ys) := by
  rw [cmp_ninL hn]
  exact congrArg some (by unfold memT; exact Bool.eq_iff_iff.mpr (by simp))
end
/-! ### sorted sets of numbers -/
def dedT [DecidableEq α] : List α → List α → List α
  | acc, [] => acc
  | acc, x :: r => if x ∈ acc then dedT acc r else dedT (acc ++ [x]) r
def ssetT (xs : List Num) : Option (List Num) := if (∀ x ∈ xs, 0 ≤ x.1 ∧ 0 ≤ x.2.1 ∧ 0 ≤ x.2.2) ∧ (dedT [] xs).length ≤ 62 then some ((dedT [] xs).mergeSort fun p q => !lt3 ltI ltI ltI q p) else none
theorem numL_inj {x y : Num} (h : numL x = numL y) : x = y := by
  simp only [numL, List.cons.injEq, and_true] at h
  exact Prod.ext h.1 (Prod.ext h.2.1 h.2.2)
theorem rows_num : ∀ xs : List Num, rowsOfD (xs.map eN) = some (xs.map numL)
  | [] => rfl
  | x :: xs => by
    rw [List.map_cons, rowsOfD, rows_num xs]
    rfl
theorem mem_numL {x : Num} {xs : List Num} : numL x ∈ xs.map numL ↔ x ∈ xs := by
  constructor
  · intro h
    obtain ⟨y, hy, e⟩ := List.mem_map.mp h
    rw [← numL_inj e]
    exact hy
  · exact fun h => List.mem_map.mpr ⟨x, h, rfl⟩
theorem ded_num : ∀ (xs acc : List Num), dedR (acc.map numL) (xs.map numL) = (dedT acc xs).map numL
  | [], acc => rfl
  | x :: xs, acc => by
    rw [List.map_cons, dedR, dedT]
    by_cases h : x ∈ acc
    · rw [if_pos h, if_pos (mem_numL.mpr h), ded_num xs acc]
    · rw [if_neg h, if_neg (fun z => h (mem_numL.mp z)), ← ded_num xs (acc ++ [x]), List.map_append]
      rfl
theorem ltRow_num (x y : Num) : ltRow (numL x) (numL y) = lt3 ltI ltI ltI x y := by
  unfold numL lt3 ltI
  simp only [ltRow]
  by_cases h1 : x.1 = y.1 <;> by_cases h2 : x.2.1 = y.2.1 <;> by_cases h3 : x.2.2 = y.2.2 <;> simp [h1, h2, h3]
theorem sset_N (x z : List Num) (h : ssetT x = some z) : biD .sset [eL eN x] = some (.own (z.map eN)) := by
  unfold ssetT at h
  split at h
  · rename_i hc
    cases h
    show ssetD (x.map eN) = _
    unfold ssetD
    rw [rows_num]
    have hd : dedR [] (x.map numL) = (dedT [] x).map numL := ded_num x []
    have hfit : rowsFit (x.map numL) = true := by
      cases x with
      | nil => rfl
      | cons y r =>
        rw [List.map_cons, rowsFit, ← List.map_cons, hd]
        simp only [Bool.and_eq_true, decide_eq_true_eq, List.all_eq_true]
        refine ⟨⟨by simp [numL], fun w hw => ?_⟩, by rw [List.length_map]; exact hc.2⟩
        obtain ⟨v, hv, rfl⟩ := List.mem_map.mp hw
        obtain ⟨a, b, c⟩ := hc.1 v hv
        exact ⟨rfl, fun i hi => by
          simp only [numL, List.mem_cons, List.not_mem_nil, or_false] at hi
          rcases hi with rfl | rfl | rfl <;> assumption⟩
    simp only [hfit, if_true]
    unfold sortR
    rw [hd, ← List.map_mergeSort (r := fun p q => !lt3 ltI ltI ltI q p) (f := numL) (fun p _ q _ => by show (!lt3 ltI ltI ltI q p) = (!ltRow (numL q) (numL p)); rw [ltRow_num]), List.map_map]
    rfl
  · cases h
section
variable {Φ : Call} {Γ : Str → Option D} {ρ : Env} {ea : Enc α} {eb : Enc β}
theorem It.enumT {a : T} {ml : M (List α)} (ha : Sf (ev Φ Γ a ρ) (eT ea) ml) {st : Bool} : It (evi Φ Γ st (.enum a) ρ) (eP eI ea) (bnd ml fun x => ret (enumT 0 x)) := fun t z t' e => by
  obtain ⟨x, t1, e1, e⟩ := bnd_inv e
  obtain ⟨rfl, rfl⟩ := ret_inv e
  obtain ⟨r1, h1, k1⟩ := ha _ _ _ e1
  rw [evi, bnd_at h1, seen_fix k1, ← enumD_map]
  rfl
theorem Sv.revT {a : T} {ml : M (List α)} (ha : Sk (ev Φ Γ a ρ) (eT ea) ml) : Sv (ev Φ Γ (.rev a) ρ) (eT ea) (bnd ml fun x => ret x.reverse) := fun t z t' e => by
  obtain ⟨x, t1, e1, e⟩ := bnd_inv e
  obtain ⟨rfl, rfl⟩ := ret_inv e
  obtain ⟨r1, h1, k1⟩ := ha _ _ _ e1
  rw [ev, bnd_at h1, k1]
  show some (R.val (.tuple (x.map ea).reverse), _) = some (R.val (.tuple (x.reverse.map ea)), _)
  rw [List.map_reverse]
/-! ### tests whose answer the types tell -/
theorem Sv.isiC {a : T} {ma : M α} {tys : List String} {b : Bool} (h : ∀ x, isiD tys (ea x) = some b) (ha : Sk (ev Φ Γ a ρ) ea ma) : Sv (ev Φ Γ (.isi a tys) ρ) eB (bnd ma fun _ => ret b) := fun t z t' e => by
  obtain ⟨x, t1, e1, e⟩ := bnd_inv e
  obtain ⟨rfl, rfl⟩ := ret_inv e
  obtain ⟨r1, h1, k1⟩ := ha _ _ _ e1
  rw [ev, bnd_at h1, k1, h]
  rfl
theorem Sv.iteT {c a b : T} {ma : M α} {m2 : M β} (hc : Sv (ev Φ Γ c ρ) eB (bnd ma fun _ => ret true)) (ha : Sv (ev Φ Γ a ρ) eb m2) : Sv (ev Φ Γ (.ite c a b) ρ) eb (bnd ma fun _ => m2) := fun t z t' e => by
  obtain ⟨x, t1, e1, e⟩ := bnd_inv e
  rw [ev, bnd_at (hc _ true _ (bnd_at e1))]
  exact ha _ _ _ e
theorem Sv.iteF {c a b : T} {ma : M α} {m2 : M β} (hc : Sv (ev Φ Γ c ρ) eB (bnd ma fun _ => ret false)) (ha : Sv (ev Φ Γ b ρ) eb m2) : Sv (ev Φ Γ (.ite c a b) ρ) eb (bnd ma fun _ => m2) := fun t z t' e => by
  obtain ⟨x, t1, e1, e⟩ := bnd_inv e
  rw [ev, bnd_at (hc _ false _ (bnd_at e1))]
  exact ha _ _ _ e
variable {ω : Type} {Z : ω → Out → Prop} {m1 m2 : M ω}
/-- a, b, c = x, y, z -/
theorem Ex.par3 {a b c : T} {γ : Type} {ma : M α} {mb : M β} {mc : M γ} {ss : Ss} {p q r : Nat × Bool} {ra : α → R} {rb : β → R} {rc : γ → R} {k : α → β → γ → M ω} {ρ1 : α → β → γ → Env} (ha : ∀ t x t', ma t = some (x, t') → ev Φ Γ a ρ t = some (ra x, t')) (hb : ∀ t x t', mb t = some (x, t') → ev Φ Γ b ρ t = some (rb x, t')) (hc : ∀ t x t', mc t = some (x, t') → ev Φ Γ c ρ t = some (rc x, t'))
    (hp : ∀ x y z, putRs [p, q, r] [ra x, rb y, rc z] ρ = some (ρ1 x y z)) (hk : ∀ x y z, Ex (exSs Φ Γ ss (ρ1 x y z)) Z (k x y z)) : Ex (exSs Φ Γ (.cons (.par [p, q, r] (.cons a (.cons b (.cons c .nil)))) ss) ρ) Z (bnd ma fun x => bnd mb fun y => bnd mc fun z => k x y z) := fun t o t' h => by
  obtain ⟨x, t1, e1, h⟩ := bnd_inv h
  obtain ⟨y, t2, e2, h⟩ := bnd_inv h
  obtain ⟨z, t3, e3, h⟩ := bnd_inv h
  obtain ⟨w, h3, hz⟩ := hk x y z _ _ _ h
  refine ⟨w, ?_, hz⟩
  have e4 : evs Φ Γ (.cons a (.cons b (.cons c .nil))) ρ t = some ([ra x, rb y, rc z], t3) := by
    rw [evs, evs, evs, evs]
    simp only [bnd, ha _ _ _ e1, hb _ _ _ e2, hc _ _ _ e3]
    rfl
  rw [exSs, exS, bnd_at (m := bnd _ _) ((bnd_at e4).trans (lift_at (by rw [hp]; rfl)))]
  exact h3
/-- x, y = (..) if c else (..), the ways apart -/
theorem Ex.unpIte {c a b : T} {is : List Nat} {ss : Ss} {mc : M Bool} (hc : Sv (ev Φ Γ c ρ) eB mc) (h1 : Ex (exSs Φ Γ (.cons (.unp is a) ss) ρ) Z m1) (h2 : Ex (exSs Φ Γ (.cons (.unp is b) ss) ρ) Z m2) : Ex (exSs Φ Γ (.cons (.unp is (.ite c a b)) ss) ρ) Z (bnd mc fun k => if k then m1 else m2) := fun t o t' h => by
  obtain ⟨x, t1, e1, h⟩ := bnd_inv h
  have e5 : ev Φ Γ (.ite c a b) ρ t = if x then ev Φ Γ a ρ t1 else ev Φ Γ b ρ t1 := by
    rw [ev, bnd_at (hc _ _ _ e1)]
    cases x <;> rfl
  cases x with
  | true =>
    obtain ⟨q, h3, hz⟩ := h1 _ _ _ h
    refine ⟨q, ?_, hz⟩
    rw [exSs, exS] at h3 ⊢
    unfold bnd at h3 ⊢
    rw [e5]
    exact h3
  | false =>
    obtain ⟨q, h3, hz⟩ := h2 _ _ _ h
    refine ⟨q, ?_, hz⟩
    rw [exSs, exS] at h3 ⊢
    unfold bnd at h3 ⊢
    rw [e5]
    exact h3
end
abbrev c_FIRST : Ver := ((0, 0, 0), [.num 0])
theorem eqv_tup (xs ys : List D) : PyData.eqv (.tuple xs) (.tuple ys) = PyData.eqvAll xs ys := by rw [PyData.eqv]
theorem eqv_nums_ver (xs : List Int) (v : Ver) : PyData.eqv (eT eI xs) (eV v) = false := by
  show PyData.eqv (.tuple (xs.map eI)) (.tuple [eN v.1, eT eIt v.2]) = false
  rw [eqv_tup]
  cases xs with
  | nil => rfl
  | cons x xs =>
    rw [List.map_cons, PyData.eqvAll]
    rfl
theorem eqv_ver_nums (xs : List Int) (v : Ver) : PyData.eqv (eV v) (eT eI xs) = false := by
  show PyData.eqv (.tuple [eN v.1, eT eIt v.2]) (.tuple (xs.map eI)) = false
  rw [eqv_tup]
  cases xs with
  | nil => rfl
  | cons x xs =>
    rw [List.map_cons, PyData.eqvAll]
    rfl
instance : EqE eOwn := ⟨fun x y => by
  cases x with
  | nums xs => cases y with
    | nums ys => rw [show PyData.eqv (eOwn (.nums xs)) (eOwn (.nums ys)) = _ from EqE.eq (e := eT eI) xs ys]; simp
    | ver v => rw [show PyData.eqv (eOwn (.nums xs)) (eOwn (.ver v)) = _ from eqv_nums_ver xs v]; simp
  | ver v => cases y with
    | nums ys => rw [show PyData.eqv (eOwn (.ver v)) (eOwn (.nums ys)) = _ from eqv_ver_nums ys v]; simp
    | ver w => rw [show PyData.eqv (eOwn (.ver v)) (eOwn (.ver w)) = _ from EqE.eq (e := eV) v w]; simp⟩
instance : OkE eOwn 2 := ⟨fun x => by
  cases x with
  | nums xs => exact ok_up 1 2 _ (by decide) (OkE.ok (e := eT eI) xs)
  | ver v => exact OkE.ok (e := eV) v⟩
end
end Ev

set_option Elab.async false
set_option linter.all false
set_option maxRecDepth 100000
set_option maxHeartbeats 4000000
namespace Ev
open PySem
/-! Q0: draws, and _law_like, for typed texts. -/
def P_draw : Str → Option Def := fun x => if x = "_law_draw" then some d__law_draw else none
def t__law_draw (m : Int) : M Int := fun t => match callD P_draw (fun _ => none) 1 "_law_draw" [.int m] t with
  | some (.val (.int v), t') => some (v, t')
  | _ => none
abbrev H__law_draw (P : Str → Option Def) (Γ : Str → Option D) : Prop := P "_law_draw" = some d__law_draw
theorem draw_free (Φ Ψ : Call) (Γ Δ : Str → Option D) (ρ : Env) : exSs Φ Γ d__law_draw.body ρ = exSs Ψ Δ d__law_draw.body ρ := by
  unfold d__law_draw s__law_draw_3 s__law_draw_2 s__law_draw_1
  simp only [exSs, exS, ev, evs]
theorem w__law_draw {P : Str → Option Def} {Γ : Str → Option D} (H : H__law_draw P Γ) (n : Nat) (v : Int) : Ft (callD P Γ (n + 1)) "_law_draw" [eI v] (wv eI) (t__law_draw v) := fun t y t' e => by
  have e1 : callD P Γ (n + 1) "_law_draw" [.int v] t = callD P_draw (fun _ => none) 1 "_law_draw" [.int v] t := by
    rw [call_eq H ⟨rfl, by decide⟩, call_eq (n := 0) (P := P_draw) (show P_draw "_law_draw" = some d__law_draw from if_pos rfl) ⟨rfl, by decide⟩, draw_free _ (callD P_draw (fun _ => none) 0) Γ (fun _ => none)]
  show callD P Γ (n + 1) "_law_draw" [.int v] t = _
  rw [e1]
  unfold t__law_draw at e
  split at e
  · rename_i h
    cases e
    exact h
  · cases e
theorem ok_draw {t : Tape} (ht : Drawn t) {m : Int} (h1 : 1 ≤ m) (h2 : m.natAbs < 2 ^ 400) : Ok (t__law_draw m) t fun v t' => 0 ≤ v ∧ v < m ∧ Drawn t' := by
  obtain ⟨r, t', h, ⟨v, rfl, h3, h4⟩, h5⟩ := (sp_draw (P := P_draw) (Γ := fun _ => none) (if_pos rfl) 0 ht h1 h2).out
  refine .mk (a := v) (t' := t') ?_ ⟨h3, h4, h5⟩
  unfold t__law_draw
  rw [h]
mutual
def likeD : D → D → Bool
  | .list xs, .list ys => likeAll xs ys
  | .tuple xs, .tuple ys => likeAll xs ys
  | .list _, _ => false
  | .tuple _, _ => false
  | x, y => !(isOf "list" y || isOf "tuple" y) && (isOf "bool" x == isOf "bool" y && PyData.eqv x y)
def likeAll : List D → List D → Bool
  | [], [] => true
  | x :: xs, y :: ys => likeD x y && likeAll xs ys
  | _, _ => false
end
mutual
/-- no list longer than the machine's -/
def short : D → Bool
  | .list xs => decide (xs.length ≤ big) && shortAll xs
  | .tuple xs => decide (xs.length ≤ big) && shortAll xs
  | _ => true
def shortAll : List D → Bool
  | [] => true
  | x :: xs => short x && shortAll xs
end
def likeOk (n : Nat) (a b : D) : Bool := ok n a && ok 60 b && short a
def t__law_like (a b : D) : Option Bool := if likeOk 10 a b then some (likeD a b) else none
abbrev H__law_like (P : Str → Option Def) (Γ : Str → Option D) : Prop := P "_law_like" = some d__law_like
theorem likeAll_get : ∀ (xs ys : List D), xs.length = ys.length → likeAll xs ys = (List.range xs.length).all fun i => likeD (xs.getD i .none) (ys.getD i .none)
  | [], [], _ => by simp [likeAll]
  | [], _ :: _, h => by simp at h
  | _ :: _, [], h => by simp at h
  | x :: xs, y :: ys, h => by
    rw [likeAll, likeAll_get xs ys (by simpa using h), List.length_cons, List.range_succ_eq_map, List.all_cons, List.all_map]
    rfl
theorem likeAll_len : ∀ (xs ys : List D), xs.length ≠ ys.length → likeAll xs ys = false
  | [], [], h => absurd rfl h
  | [], _ :: _, _ => by simp [likeAll]
  | _ :: _, [], _ => by simp [likeAll]
  | x :: xs, y :: ys, h => by
    rw [likeAll, likeAll_len xs ys (by simpa using h), Bool.and_false]
theorem okAll_mem {n : Nat} : ∀ {xs : List D}, okAll n xs = true → ∀ x ∈ xs, ok n x = true
  | [], _, x, h => by simp at h
  | y :: ys, e, x, h => by
    rw [okAll, Bool.and_eq_true] at e
    rcases List.mem_cons.mp h with rfl | h
    · exact e.1
    · exact okAll_mem e.2 x h
theorem shortAll_mem : ∀ {xs : List D}, shortAll xs = true → ∀ x ∈ xs, short x = true
  | [], _, x, h => by simp at h
  | y :: ys, e, x, h => by
    rw [shortAll, Bool.and_eq_true] at e
    rcases List.mem_cons.mp h with rfl | h
    · exact e.1
    · exact shortAll_mem e.2 x h
theorem subD_tup {xs : List D} {i : Nat} (h : i < xs.length) : subD (.tuple xs) (.int (i : Nat)) = some (xs.getD i .none) := by
  show L2.atI xs i = _
  unfold L2.atI L2.ixN
  rw [if_pos (by omega), if_pos (by omega)]
  simp [h]
theorem subD_lst {xs : List D} {i : Nat} (h : i < xs.length) : subD (.list xs) (.int (i : Nat)) = some (xs.getD i .none) := by
  show L2.atI xs i = _
  unfold L2.atI L2.ixN
  rw [if_pos (by omega), if_pos (by omega)]
  simp [h]
theorem ints_ok (l : List Nat) : okAll 59 (l.map fun i => PyData.int (i : Nat)) = true := by
  induction l with
  | nil => rfl
  | cons x l ih => rw [List.map_cons, okAll, ih]; rfl
def keepR (p : Nat → Bool) : D → List D
  | .int i => if p i.toNat then [] else [.int i]
  | _ => []
theorem fil_range (p : Nat → Bool) : ∀ l : List Nat, ((l.map fun i => PyData.int (i : Nat)).map (keepR p)).flatten = (l.filter fun i => !p i).map fun i => PyData.int (i : Nat)
  | [] => rfl
  | x :: l => by
    rw [List.map_cons, List.map_cons, List.flatten_cons, fil_range p l, List.filter_cons]
    show (if p ((x : Int).toNat) then [] else [PyData.int (x : Nat)]) ++ _ = _
    rw [Int.toNat_natCast]
    by_cases h : p x = true
    · simp [h]
    · simp [h]
section
variable {P : Str → Option Def} {Γ : Str → Option D}
/-- the part for two rows of as many items -/
theorem like_rows (n : Nat) {t : Tape} {xs ys : List D} {one two : D} {mk : List D → D} (h1 : one = mk xs) (h2 : two = mk ys) (hs : ∀ (zs : List D) (i : Nat), i < zs.length → subD (mk zs) (.int (i : Nat)) = some (zs.getD i .none)) (hl : xs.length = ys.length) (hb : xs.length ≤ big)
    (hlen : biD .len [one] = some (.val (.int (xs.length : Nat))))
    (ih : ∀ i, i < xs.length → ∀ t, Ok (callD P Γ n "_law_like" [xs.getD i .none, ys.getD i .none]) t fun r t' => r = .val (.bool (likeD (xs.getD i .none) (ys.getD i .none))) ∧ t' = t)
    {Q : R → Tape → Prop} (hQ : Q (.val (.bool (likeAll xs ys))) t) :
    wpE (callD P Γ n) Γ (.cmp .eq (.comp (.name 2) (.rng (.bi .len (.cons (.var 0) .nil))) (.not (.call "_law_like" (.cons (.sub (.var 0) (.var 2)) (.cons (.sub (.var 1) (.var 2)) .nil)))) (.elt (.var 2))) (.lst .nil)) [some (.val one), some (.val two), none] t Q := by
  refine ⟨_, rfl, _, hlen, (List.range xs.length).map fun i => .int (i : Nat), ?_, ?_⟩
  · show (if ((xs.length : Nat) : Int).natAbs ≤ big then _ else _) = _
    rw [if_pos (by omega)]
    simp
  refine loop_pure (g := keepR fun i => likeD (xs.getD i .none) (ys.getD i .none)) (fun d hd => ?_) ?_
  · obtain ⟨i, hi, rfl⟩ := List.mem_map.mp hd
    have hi : i < xs.length := List.mem_range.mp hi
    refine wp_turn ⟨_, rfl, _, rfl, _, rfl, _, by subst h1; exact hs xs i hi, _, rfl, _, rfl, _, by subst h2; exact hs ys i (hl ▸ hi), ?_⟩
    refine (ih i hi _).mono ?_
    rintro r t' ⟨rfl, -⟩
    refine ⟨_, rfl, _, rfl, _, rfl, fun h => ?_, fun h => ?_⟩
    · repeat (first | refine ⟨fun _ => ?_, fun z => (nomatch (z : true = false))⟩ | refine ⟨fun z => (nomatch (z : false = true)), fun _ => ?_⟩ | refine ⟨_, bop_mul (mul_small (by decide)), ?_⟩ | refine ⟨_, bop_mul (mul_small2 (by decide)), ?_⟩ | refine ⟨_, rfl, ?_⟩ | refine ⟨List.cons_ne_nil _ _, ?_⟩)
      show _ = (if likeD (xs.getD ((i : Int).toNat) .none) (ys.getD ((i : Int).toNat) .none) then [] else [PyData.int (i : Nat)]) ∧ _
      rw [Int.toNat_natCast]
      have h : (!likeD (xs.getD i .none) (ys.getD i .none)) = true := h
      rw [Bool.not_eq_true'] at h
      exact ⟨(if_neg (by rw [h]; decide)).symm, rfl⟩
    · show _ = (if likeD (xs.getD ((i : Int).toNat) .none) (ys.getD ((i : Int).toNat) .none) then [] else [PyData.int (i : Nat)]) ∧ _
      rw [Int.toNat_natCast]
      have h : (!likeD (xs.getD i .none) (ys.getD i .none)) = false := h
      rw [Bool.not_eq_false'] at h
      exact ⟨(if_pos h).symm, rfl⟩
  · have ef := fil_range (fun i => likeD (xs.getD i .none) (ys.getD i .none)) (List.range xs.length)
    rw [ef]
    refine ⟨_, rfl, _, rfl, likeAll xs ys, ?_, hQ⟩
    show (if ok 60 (.list _) && ok 60 (.list []) then some (PyData.eqv (.list _) (.list [])) else none) = _
    rw [show ok 60 (.list ((List.filter (fun i => !likeD (xs.getD i .none) (ys.getD i .none)) (List.range xs.length)).map fun i => PyData.int (i : Nat))) = true from by rw [ok]; exact ints_ok _]
    show some _ = _
    congr 1
    rw [likeAll_get xs ys hl, PyData.eqv]
    cases hf : List.filter (fun i => !likeD (xs.getD i .none) (ys.getD i .none)) (List.range xs.length) with
    | nil =>
      rw [List.map_nil, PyData.eqvAll]
      symm
      rw [List.all_eq_true]
      intro i hi
      have := List.filter_eq_nil_iff.mp hf i hi
      simpa using this
    | cons i r =>
      rw [List.map_cons]
      have hm : i ∈ List.filter (fun i => !likeD (xs.getD i .none) (ys.getD i .none)) (List.range xs.length) := by rw [hf]; exact List.mem_cons_self
      obtain ⟨h3, h4⟩ := List.mem_filter.mp hm
      have e : PyData.eqvAll (PyData.int (i : Nat) :: r.map fun i => PyData.int (i : Nat)) [] = false := by simp [PyData.eqvAll]
      rw [e]
      symm
      rw [← Bool.not_eq_true, List.all_eq_true]
      intro z
      have := z i h3
      rw [this] at h4
      cases h4
theorem like_atom (h : P "_law_like" = some d__law_like) (m : Nat) {t : Tape} {a b : D} (ha : isiD ["list", "tuple"] a = some false) (h1 : ok 0 a = true) (h2 : ok 60 b = true) : Ok (callD P Γ (m + 1) "_law_like" [a, b]) t fun r t' => r = .val (.bool (likeD a b)) ∧ t' = t := by
  refine wp_def h ⟨rfl, by decide⟩ ?_
  unfold d__law_like s__law_like_4 s__law_like_3
  refine ⟨_, rfl, _, ha, _, rfl, fun z => (nomatch (z : false = true)), fun _ => ?_⟩
  refine ⟨_, rfl, isOf "list" b || isOf "tuple" b, by cases b <;> first | rfl | (simp [ok] at h2), _, rfl, fun z => ?_, fun z => ?_⟩
  · refine ⟨?_, rfl⟩
    cases a <;> simp [ok] at h1 <;> simp [likeD, z] <;> rfl
  · refine ⟨_, rfl, isOf "bool" a, by cases a <;> simp [ok] at h1 <;> rfl, _, rfl, isOf "bool" b, by cases b <;> first | rfl | (simp [ok] at h2), isOf "bool" a == isOf "bool" b, ?_, _, rfl, fun hb => ?_, fun hb => ?_⟩
    · cases isOf "bool" a <;> cases isOf "bool" b <;> rfl
    · refine ⟨_, rfl, _, rfl, PyData.eqv a b, ?_, ?_⟩
      · show (if ok 60 a && ok 60 b then _ else _) = _
        rw [ok_up _ _ _ (by decide) h1, h2]; rfl
      · refine ⟨?_, rfl⟩
        cases a <;> simp [ok] at h1 <;> simp [likeD, z, hb] <;> rfl
    · refine ⟨?_, rfl⟩
      cases a <;> simp [ok] at h1 <;> simp [likeD, z, hb] <;> rfl
theorem getD_mem {xs : List D} {i : Nat} (h : i < xs.length) : xs.getD i .none ∈ xs := by
  rw [List.getD_eq_getElem?_getD, List.getElem?_eq_getElem h]
  exact List.getElem_mem h
theorem sp_like (h : P "_law_like" = some d__law_like) : ∀ (n m : Nat) {t : Tape} {a b : D}, likeOk n a b = true → Ok (callD P Γ (m + n + 1) "_law_like" [a, b]) t fun r t' => r = .val (.bool (likeD a b)) ∧ t' = t := by
  intro n
  induction n with
  | zero =>
    intro m t a b ho
    unfold likeOk at ho
    simp only [Bool.and_eq_true] at ho
    obtain ⟨⟨h1, h2⟩, h3⟩ := ho
    exact like_atom h m (by cases a <;> simp [ok] at h1 <;> rfl) h1 h2
  | succ n ih =>
    intro m t a b ho
    unfold likeOk at ho
    simp only [Bool.and_eq_true] at ho
    obtain ⟨⟨h1, h2⟩, h3⟩ := ho
    cases a with
    | dict _ => simp [ok] at h1
    | none => exact like_atom h _ rfl rfl h2
    | bool _ => exact like_atom h _ rfl rfl h2
    | int _ => exact like_atom h _ rfl rfl h2
    | str x => exact like_atom h _ rfl (by simpa [ok] using h1) h2
    | list xs =>
      refine wp_def h ⟨rfl, by decide⟩ ?_
      unfold d__law_like s__law_like_4 s__law_like_3 s__law_like_2 s__law_like_1
      rw [ok] at h1
      rw [short, Bool.and_eq_true, decide_eq_true_eq] at h3
      cases b with
      | list ys =>
        rw [ok] at h2
        repeat (first | refine ⟨fun _ => ?_, fun z => (nomatch (z : true = false))⟩ | refine ⟨fun z => (nomatch (z : false = true)), fun _ => ?_⟩ | refine ⟨_, bop_mul (mul_small (by decide)), ?_⟩ | refine ⟨_, bop_mul (mul_small2 (by decide)), ?_⟩ | refine ⟨_, rfl, ?_⟩ | refine ⟨List.cons_ne_nil _ _, ?_⟩)
        refine ⟨fun h5 => ?_, fun h5 => ?_⟩
        · refine ⟨?_, rfl⟩
          have h5 : (!PyData.eqv (.int (xs.length : Nat)) (.int (ys.length : Nat))) = true := h5
          have e : xs.length ≠ ys.length := fun z => by rw [z] at h5; simp [PyData.eqv] at h5
          show R.val (.bool false) = R.val (.bool (likeD (.list xs) (.list ys)))
          rw [likeD, likeAll_len xs ys e]
        · have h5 : (!PyData.eqv (.int (xs.length : Nat)) (.int (ys.length : Nat))) = false := h5
          have e : xs.length = ys.length := by
            simp [PyData.eqv] at h5
            omega
          have key := like_rows (Γ := Γ) (t := t) (P := P) (m + (n + 1)) (mk := .list) (xs := xs) (ys := ys) rfl rfl (fun zs i hi => subD_lst hi) e h3.1 rfl (fun i hi t => ih m (by
            unfold likeOk
            rw [okAll_mem h1 _ (getD_mem hi), ok_up 59 60 _ (by decide) (okAll_mem h2 _ (getD_mem (e ▸ hi))), shortAll_mem h3.2 _ (getD_mem hi)]
            rfl)) (Q := fun r t' => retR r = .val (.bool (likeD (.list xs) (.list ys))) ∧ t' = t) ⟨by rw [likeD]; rfl, rfl⟩
          exact key
      | dict _ => simp [ok] at h2
      | _ =>
        repeat (first | refine ⟨fun _ => ?_, fun z => (nomatch (z : true = false))⟩ | refine ⟨fun z => (nomatch (z : false = true)), fun _ => ?_⟩ | refine ⟨_, bop_mul (mul_small (by decide)), ?_⟩ | refine ⟨_, bop_mul (mul_small2 (by decide)), ?_⟩ | refine ⟨_, rfl, ?_⟩ | refine ⟨List.cons_ne_nil _ _, ?_⟩)
        refine ⟨?_, rfl⟩
        simp [likeD, outR, retR]
    | tuple xs =>
      refine wp_def h ⟨rfl, by decide⟩ ?_
      unfold d__law_like s__law_like_4 s__law_like_3 s__law_like_2 s__law_like_1
      rw [ok] at h1
      rw [short, Bool.and_eq_true, decide_eq_true_eq] at h3
      cases b with
      | tuple ys =>
        rw [ok] at h2
        repeat (first | refine ⟨fun _ => ?_, fun z => (nomatch (z : true = false))⟩ | refine ⟨fun z => (nomatch (z : false = true)), fun _ => ?_⟩ | refine ⟨_, bop_mul (mul_small (by decide)), ?_⟩ | refine ⟨_, bop_mul (mul_small2 (by decide)), ?_⟩ | refine ⟨_, rfl, ?_⟩ | refine ⟨List.cons_ne_nil _ _, ?_⟩)
        refine ⟨fun h5 => ?_, fun h5 => ?_⟩
        · refine ⟨?_, rfl⟩
          have h5 : (!PyData.eqv (.int (xs.length : Nat)) (.int (ys.length : Nat))) = true := h5
          have e : xs.length ≠ ys.length := fun z => by rw [z] at h5; simp [PyData.eqv] at h5
          show R.val (.bool false) = R.val (.bool (likeD (.tuple xs) (.tuple ys)))
          rw [likeD, likeAll_len xs ys e]
        · have h5 : (!PyData.eqv (.int (xs.length : Nat)) (.int (ys.length : Nat))) = false := h5
          have e : xs.length = ys.length := by
            simp [PyData.eqv] at h5
            omega
          have key := like_rows (Γ := Γ) (t := t) (P := P) (m + (n + 1)) (mk := .tuple) (xs := xs) (ys := ys) rfl rfl (fun zs i hi => subD_tup hi) e h3.1 rfl (fun i hi t => ih m (by
            unfold likeOk
            rw [okAll_mem h1 _ (getD_mem hi), ok_up 59 60 _ (by decide) (okAll_mem h2 _ (getD_mem (e ▸ hi))), shortAll_mem h3.2 _ (getD_mem hi)]
            rfl)) (Q := fun r t' => retR r = .val (.bool (likeD (.tuple xs) (.tuple ys))) ∧ t' = t) ⟨by rw [likeD]; rfl, rfl⟩
          exact key
      | dict _ => simp [ok] at h2
      | _ =>
        repeat (first | refine ⟨fun _ => ?_, fun z => (nomatch (z : true = false))⟩ | refine ⟨fun z => (nomatch (z : false = true)), fun _ => ?_⟩ | refine ⟨_, bop_mul (mul_small (by decide)), ?_⟩ | refine ⟨_, bop_mul (mul_small2 (by decide)), ?_⟩ | refine ⟨_, rfl, ?_⟩ | refine ⟨List.cons_ne_nil _ _, ?_⟩)
        refine ⟨?_, rfl⟩
        simp [likeD, outR, retR]
theorem w__law_like (H : H__law_like P Γ) (n : Nat) (a b : D) : Fv (callD P Γ (n + 12)) "_law_like" [a, b] (wv eB) (t__law_like a b) := fun y e => by
  unfold t__law_like at e
  split at e
  · rename_i h
    cases e
    obtain ⟨r, t', h1, rfl, rfl⟩ := (sp_like (Γ := Γ) H 10 (n + 1) (t := []) h).out
    exact ⟨_, h1⟩
  · cases e
end
end Ev

set_option Elab.async false
set_option linter.all false
set_option maxRecDepth 100000
set_option maxHeartbeats 1000000
namespace Ev
open PySem
def x_e : Tx := ⟨"", by decide +kernel, by decide +kernel⟩
def x_major : Tx := ⟨"major", by decide +kernel, by decide +kernel⟩
def x_minor : Tx := ⟨"minor", by decide +kernel, by decide +kernel⟩
def d_item_key : Def := ⟨1, false, 1,
 (.cons (.ret (.ite (.isi (.var 0) ["str"]) (.tup (.cons (.cst (.int 1)) (.cons (.cst (.int 0)) (.cons (.var 0) .nil)))) (.tup (.cons (.cst (.int 0)) (.cons (.var 0) (.cons (.cst (.str "")) .nil))))))
 .nil)⟩
abbrev H_item_key (P : Str → Option Def) (Γ : Str → Option D) : Prop := P "item_key" = some d_item_key
def t_item_key (v_item : Item) : Option (Int × Int × Tx) := run (
 (bnd (bnd (ret v_item) fun x => ret (isWordT x)) fun c => if c then (bnd (ret (1 : Int)) fun x => bnd (ret (0 : Int)) fun y => bnd (bnd (ret v_item) fun x => lift (itWord x)) fun z => ret (x, y, z)) else (bnd (ret (0 : Int)) fun x => bnd (bnd (ret v_item) fun x => lift (itNum x)) fun y => bnd (ret x_e) fun z => ret (x, y, z))))
theorem w_item_key {P : Str → Option Def} {Γ : Str → Option D} (H : H_item_key P Γ) (n : Nat) (v_item : Item) : Fv (callD P Γ (n + 1)) "item_key" [eIt v_item] (wv (e3 eI eI eS)) (t_item_key v_item) := by
 refine Fv.mk H ⟨rfl, by decide⟩ ?_
 exact Ex.ret0 (ea := (e3 eI eI eS)) (Sv.ite (isi_word (Sv.k (Sv.var (x := v_item) (ea := eIt) rfl))) (Sv.tup3 (ea := eI) (eb := eI) (ec := eS) (Sv.f (Sv.cst (x := (1 : Int)) (ea := eI) rfl)) (Sv.f (Sv.cst (x := (0 : Int)) (ea := eI) rfl)) (Sv.f (Sv.cast (eb := eS) (g := itWord) (Sv.var (x := v_item) (ea := eIt) rfl) itWord_ok))) (Sv.tup3 (ea := eI) (eb := eI) (ec := eS) (Sv.f (Sv.cst (x := (0 : Int)) (ea := eI) rfl)) (Sv.f (Sv.cast (eb := eI) (g := itNum) (Sv.var (x := v_item) (ea := eIt) rfl) itNum_ok)) (Sv.f (Sv.cst (x := x_e) (ea := eS) rfl)))) (fun _ => rfl)
def d_key : Def := ⟨1, false, 4,
 (.cons (.unp [1, 2] (.var 0))
 (.cons (.ret (.tup (.cons (.var 1) (.cons (.ite (.cmp .eq (.var 2) (.tup .nil)) (.cst (.int 1)) (.cst (.int 0))) (.cons (.bi .tuple (.cons (.comp (.name 3) (.ex (.var 2)) (.cst (.bool true)) (.elt (.call "item_key" (.cons (.var 3) .nil)))) .nil)) .nil)))))
 .nil))⟩
abbrev H_key (P : Str → Option Def) (Γ : Str → Option D) : Prop := P "key" = some d_key ∧ H_item_key P Γ
def t_key (v_version : ((Int × Int × Int) × (List Item))) : Option ((Int × Int × Int) × Int × (List (Int × Int × Tx))) := run (
 (bnd (ret v_version) fun y1 =>
 (bnd (ret y1.1) fun x => bnd (bnd (bnd (ret y1.2) fun x => bnd (bnd (ret []) fun xs => lift (fitT xs)) fun y => ret ((fun x y => decide (x = y)) x y)) fun c => if c then (ret (1 : Int)) else (ret (0 : Int))) fun y => bnd (bnd (bnd (ret y1.2) fun xs => mapT (fun x2 => (bnd (ret x2) fun a0 => lift (t_item_key a0))) xs) fun x => ret x) fun z => ret (x, y, z))))
theorem w_key {P : Str → Option Def} {Γ : Str → Option D} (H : H_key P Γ) (n : Nat) (v_version : ((Int × Int × Int) × (List Item))) : Fv (callD P Γ (n + 2)) "key" [(eP (e3 eI eI eI) (eT eIt)) v_version] (wv (e3 (e3 eI eI eI) eI (eT (e3 eI eI eS)))) (t_key v_version) := by
 refine Fv.mk H.1 ⟨rfl, by decide⟩ ?_
 refine Ex.unp (ea := (eP (e3 eI eI eI) (eT eIt))) (Sv.f (Sv.var (x := v_version) (ea := (eP (e3 eI eI eI) (eT eIt))) rfl)) (fun _ => rfl) fun y1 => ?_
 exact Ex.ret0 (ea := (e3 (e3 eI eI eI) eI (eT (e3 eI eI eS)))) (Sv.tup3 (ea := (e3 eI eI eI)) (eb := eI) (ec := (eT (e3 eI eI eS))) (Sv.f (Sv.var (x := y1.1) (ea := (e3 eI eI eI)) rfl)) (Sv.f (Sv.ite (Sv.cmp (g := (fun x y => decide (x = y))) (cmp_eq (e := (eT eIt)) (by decide)) (Sv.k (Sv.var (x := y1.2) (ea := (eT eIt)) rfl)) (Sv.k (Sv.tupL As.nil))) (Sv.cst (x := (1 : Int)) (ea := eI) rfl) (Sv.cst (x := (0 : Int)) (ea := eI) rfl))) (Sv.f (Sv.bi1p (ed := eT (e3 eI eI eS)) (g := fun x => x) (bi_tupL (e := (e3 eI eI eS))) (So.k (So.comp (ea := eIt) (eb := (e3 eI eI eS)) (It.exT (ea := eIt) (Sv.f (Sv.var (x := y1.2) (ea := (eT eIt)) rfl))) fun x2 => ⟨_, rfl, (Sv.f (Sv.call1 (ed := (e3 eI eI eS)) (fun a0 => w_item_key H.2 (n + 0) a0) (Sv.f (Sv.var (x := x2) (ea := eIt) rfl))))⟩))))) (fun _ => rfl)
def d_before : Def := ⟨2, false, 2,
 (.cons (.ret (.cmp .lt (.call "key" (.cons (.var 0) .nil)) (.call "key" (.cons (.var 1) .nil))))
 .nil)⟩
abbrev H_before (P : Str → Option Def) (Γ : Str → Option D) : Prop := P "before" = some d_before ∧ H_key P Γ
def t_before (v_one : ((Int × Int × Int) × (List Item))) (v_other : ((Int × Int × Int) × (List Item))) : Option Bool := run (
 (bnd (bnd (ret v_one) fun a0 => lift (t_key a0)) fun x => bnd (bnd (ret v_other) fun a0 => lift (t_key a0)) fun y => ret ((fun x y => (lt3 (lt3 ltI ltI ltI) ltI (ltL (lt3 ltI ltI ltB))) x y) x y)))
theorem w_before {P : Str → Option Def} {Γ : Str → Option D} (H : H_before P Γ) (n : Nat) (v_one : ((Int × Int × Int) × (List Item))) (v_other : ((Int × Int × Int) × (List Item))) : Fv (callD P Γ (n + 3)) "before" [(eP (e3 eI eI eI) (eT eIt)) v_one, (eP (e3 eI eI eI) (eT eIt)) v_other] (wv eB) (t_before v_one v_other) := by
 refine Fv.mk H.1 ⟨rfl, by decide⟩ ?_
 exact Ex.ret0 (ea := eB) (Sv.cmp (g := (fun x y => (lt3 (lt3 ltI ltI ltI) ltI (ltL (lt3 ltI ltI ltB))) x y)) (cmp_lt (e := (e3 (e3 eI eI eI) eI (eT (e3 eI eI eS)))) (by decide)) (Sv.k (Sv.call1 (ed := (e3 (e3 eI eI eI) eI (eT (e3 eI eI eS)))) (fun a0 => w_key H.2 (n + 0) a0) (Sv.f (Sv.var (x := v_one) (ea := (eP (e3 eI eI eI) (eT eIt))) rfl)))) (Sv.k (Sv.call1 (ed := (e3 (e3 eI eI eI) eI (eT (e3 eI eI eS)))) (fun a0 => w_key H.2 (n + 0) a0) (Sv.f (Sv.var (x := v_other) (ea := (eP (e3 eI eI eI) (eT eIt))) rfl))))) (fun _ => rfl)
def d_raised : Def := ⟨1, false, 4,
 (.cons (.unp [1, 2, 3] (.var 0))
 (.cons (.ret (.tup (.cons (.var 1) (.cons (.var 2) (.cons (.bin .add (.var 3) (.cst (.int 1))) .nil)))))
 .nil))⟩
abbrev H_raised (P : Str → Option Def) (Γ : Str → Option D) : Prop := P "raised" = some d_raised
def t_raised (v_numbers : (Int × Int × Int)) : Option (Int × Int × Int) := run (
 (bnd (ret v_numbers) fun y1 =>
 (bnd (ret y1.1) fun x => bnd (ret y1.2.1) fun y => bnd (bnd (ret y1.2.2) fun x => bnd (ret (1 : Int)) fun y => ret (x + y)) fun z => ret (x, y, z))))
theorem w_raised {P : Str → Option Def} {Γ : Str → Option D} (H : H_raised P Γ) (n : Nat) (v_numbers : (Int × Int × Int)) : Fv (callD P Γ (n + 1)) "raised" [(e3 eI eI eI) v_numbers] (wv (e3 eI eI eI)) (t_raised v_numbers) := by
 refine Fv.mk H ⟨rfl, by decide⟩ ?_
 refine Ex.unp (ea := (e3 eI eI eI)) (Sv.f (Sv.var (x := v_numbers) (ea := (e3 eI eI eI)) rfl)) (fun _ => rfl) fun y1 => ?_
 exact Ex.ret0 (ea := (e3 eI eI eI)) (Sv.tup3 (ea := eI) (eb := eI) (ec := eI) (Sv.f (Sv.var (x := y1.1) (ea := eI) rfl)) (Sv.f (Sv.var (x := y1.2.1) (ea := eI) rfl)) (Sv.f (Sv.opp op_addI (Sv.k (Sv.var (x := y1.2.2) (ea := eI) rfl)) (Sv.k (Sv.cst (x := (1 : Int)) (ea := eI) rfl))))) (fun _ => rfl)
def s_stepped_1 : S := .ite (.cmp .eq (.var 1) (.cst (.str "major")))
 (.cons (.ret (.tup (.cons (.bin .add (.var 2) (.cst (.int 1))) (.cons (.cst (.int 0)) (.cons (.cst (.int 0)) .nil)))))
 .nil)
 .nil
def d_stepped : Def := ⟨2, false, 5,
 (.cons (.unp [2, 3, 4] (.var 0))
 (.cons s_stepped_1
 (.cons (.ret (.ite (.cmp .eq (.var 1) (.cst (.str "minor"))) (.tup (.cons (.var 2) (.cons (.bin .add (.var 3) (.cst (.int 1))) (.cons (.cst (.int 0)) .nil)))) (.tup (.cons (.var 2) (.cons (.var 3) (.cons (.bin .add (.var 4) (.cst (.int 1))) .nil))))))
 .nil)))⟩
abbrev H_stepped (P : Str → Option Def) (Γ : Str → Option D) : Prop := P "stepped" = some d_stepped
def t_stepped (v_numbers : (Int × Int × Int)) (v_step : Tx) : Option (Int × Int × Int) := run (
 (bnd (ret v_numbers) fun y1 =>
 (bnd (bnd (ret v_step) fun x => bnd (ret x_major) fun y => ret ((fun x y => decide (x = y)) x y)) fun c => if c then
  (bnd (bnd (ret y1.1) fun x => bnd (ret (1 : Int)) fun y => ret (x + y)) fun x => bnd (ret (0 : Int)) fun y => bnd (ret (0 : Int)) fun z => ret (x, y, z))
 else
  (bnd (bnd (ret v_step) fun x => bnd (ret x_minor) fun y => ret ((fun x y => decide (x = y)) x y)) fun c => if c then (bnd (ret y1.1) fun x => bnd (bnd (ret y1.2.1) fun x => bnd (ret (1 : Int)) fun y => ret (x + y)) fun y => bnd (ret (0 : Int)) fun z => ret (x, y, z)) else (bnd (ret y1.1) fun x => bnd (ret y1.2.1) fun y => bnd (bnd (ret y1.2.2) fun x => bnd (ret (1 : Int)) fun y => ret (x + y)) fun z => ret (x, y, z))))))
theorem w_stepped {P : Str → Option Def} {Γ : Str → Option D} (H : H_stepped P Γ) (n : Nat) (v_numbers : (Int × Int × Int)) (v_step : Tx) : Fv (callD P Γ (n + 1)) "stepped" [(e3 eI eI eI) v_numbers, eS v_step] (wv (e3 eI eI eI)) (t_stepped v_numbers v_step) := by
 refine Fv.mk H ⟨rfl, by decide⟩ ?_
 refine Ex.unp (ea := (e3 eI eI eI)) (Sv.f (Sv.var (x := v_numbers) (ea := (e3 eI eI eI)) rfl)) (fun _ => rfl) fun y1 => ?_
 refine Ex.ite (Sv.cmp (g := (fun x y => decide (x = y))) (cmp_eq (e := eS) (by decide)) (Sv.k (Sv.var (x := v_step) (ea := eS) rfl)) (Sv.k (Sv.cst (x := x_major) (ea := eS) rfl))) ?_ ?_
 · skip
   exact Ex.ret0 (ea := (e3 eI eI eI)) (Sv.tup3 (ea := eI) (eb := eI) (ec := eI) (Sv.f (Sv.opp op_addI (Sv.k (Sv.var (x := y1.1) (ea := eI) rfl)) (Sv.k (Sv.cst (x := (1 : Int)) (ea := eI) rfl)))) (Sv.f (Sv.cst (x := (0 : Int)) (ea := eI) rfl)) (Sv.f (Sv.cst (x := (0 : Int)) (ea := eI) rfl))) (fun _ => rfl)
 · skip
   exact Ex.ret0 (ea := (e3 eI eI eI)) (Sv.ite (Sv.cmp (g := (fun x y => decide (x = y))) (cmp_eq (e := eS) (by decide)) (Sv.k (Sv.var (x := v_step) (ea := eS) rfl)) (Sv.k (Sv.cst (x := x_minor) (ea := eS) rfl))) (Sv.tup3 (ea := eI) (eb := eI) (ec := eI) (Sv.f (Sv.var (x := y1.1) (ea := eI) rfl)) (Sv.f (Sv.opp op_addI (Sv.k (Sv.var (x := y1.2.1) (ea := eI) rfl)) (Sv.k (Sv.cst (x := (1 : Int)) (ea := eI) rfl)))) (Sv.f (Sv.cst (x := (0 : Int)) (ea := eI) rfl))) (Sv.tup3 (ea := eI) (eb := eI) (ec := eI) (Sv.f (Sv.var (x := y1.1) (ea := eI) rfl)) (Sv.f (Sv.var (x := y1.2.1) (ea := eI) rfl)) (Sv.f (Sv.opp op_addI (Sv.k (Sv.var (x := y1.2.2) (ea := eI) rfl)) (Sv.k (Sv.cst (x := (1 : Int)) (ea := eI) rfl)))))) (fun _ => rfl)
def d__law_more : Def := ⟨1, false, 1,
 (.cons (.ret (.tup (.cons (.sub (.var 0) (.cst (.int 0))) (.cons (.sub (.var 0) (.cst (.int 1))) (.cons (.bin .add (.sub (.var 0) (.cst (.int 2))) (.cst (.int 1))) .nil)))))
 .nil)⟩
abbrev H__law_more (P : Str → Option Def) (Γ : Str → Option D) : Prop := P "_law_more" = some d__law_more
def t__law_more (v_numbers : (Int × Int × Int)) : Option (Int × Int × Int) := run (
 (bnd (bnd (ret v_numbers) fun x => ret ((fun x => x.1) x)) fun x => bnd (bnd (ret v_numbers) fun x => ret ((fun x => x.2.1) x)) fun y => bnd (bnd (bnd (ret v_numbers) fun x => ret ((fun x => x.2.2) x)) fun x => bnd (ret (1 : Int)) fun y => ret (x + y)) fun z => ret (x, y, z)))
theorem w__law_more {P : Str → Option Def} {Γ : Str → Option D} (H : H__law_more P Γ) (n : Nat) (v_numbers : (Int × Int × Int)) : Fv (callD P Γ (n + 1)) "_law_more" [(e3 eI eI eI) v_numbers] (wv (e3 eI eI eI)) (t__law_more v_numbers) := by
 refine Fv.mk H ⟨rfl, by decide⟩ ?_
 exact Ex.ret0 (ea := (e3 eI eI eI)) (Sv.tup3 (ea := eI) (eb := eI) (ec := eI) (Sv.f (Sv.fld (g := (fun x => x.1)) fld_30 (Sv.k (Sv.var (x := v_numbers) (ea := (e3 eI eI eI)) rfl)))) (Sv.f (Sv.fld (g := (fun x => x.2.1)) fld_31 (Sv.k (Sv.var (x := v_numbers) (ea := (e3 eI eI eI)) rfl)))) (Sv.f (Sv.opp op_addI (Sv.k (Sv.fld (g := (fun x => x.2.2)) fld_32 (Sv.k (Sv.var (x := v_numbers) (ea := (e3 eI eI eI)) rfl)))) (Sv.k (Sv.cst (x := (1 : Int)) (ea := eI) rfl))))) (fun _ => rfl)
abbrev H__law_numbers (P : Str → Option Def) (Γ : Str → Option D) : Prop := P "_law_numbers" = some d__law_numbers ∧ H__law_draw P Γ
def t__law_numbers (v_most : Int) : M (Int × Int × Int) :=
 (bnd (needT (bnd (bnd (ret v_most) fun x => bnd (ret (1 : Int)) fun y => ret (x + y)) fun a0 => needT (t__law_draw a0))) fun x => bnd (needT (bnd (bnd (ret v_most) fun x => bnd (ret (1 : Int)) fun y => ret (x + y)) fun a0 => needT (t__law_draw a0))) fun y => bnd (needT (bnd (bnd (ret v_most) fun x => bnd (ret (1 : Int)) fun y => ret (x + y)) fun a0 => needT (t__law_draw a0))) fun z => ret (x, y, z))
theorem w__law_numbers {P : Str → Option Def} {Γ : Str → Option D} (H : H__law_numbers P Γ) (n : Nat) (v_most : Int) : Ft (callD P Γ (n + 2)) "_law_numbers" [eI v_most] (wv (e3 eI eI eI)) (t__law_numbers v_most) := by
 refine Ft.mk H.1 ⟨rfl, by decide⟩ ?_
 exact Ex.ret0 (ea := (e3 eI eI eI)) (Sv.tup3 (ea := eI) (eb := eI) (ec := eI) (Sv.f (Sv.callT1 (ed := eI) (fun a0 => w__law_draw H.2 (n + 0) a0) (Sv.f (Sv.opp op_addI (Sv.k (Sv.var (x := v_most) (ea := eI) rfl)) (Sv.k (Sv.cst (x := (1 : Int)) (ea := eI) rfl)))))) (Sv.f (Sv.callT1 (ed := eI) (fun a0 => w__law_draw H.2 (n + 0) a0) (Sv.f (Sv.opp op_addI (Sv.k (Sv.var (x := v_most) (ea := eI) rfl)) (Sv.k (Sv.cst (x := (1 : Int)) (ea := eI) rfl)))))) (Sv.f (Sv.callT1 (ed := eI) (fun a0 => w__law_draw H.2 (n + 0) a0) (Sv.f (Sv.opp op_addI (Sv.k (Sv.var (x := v_most) (ea := eI) rfl)) (Sv.k (Sv.cst (x := (1 : Int)) (ea := eI) rfl))))))) (fun _ => rfl)
end Ev

set_option Elab.async false
set_option linter.all false
set_option maxRecDepth 100000
set_option maxHeartbeats 1000000
namespace Ev
open PySem
def x_a : Tx := ⟨"a", by decide +kernel, by decide +kernel⟩
def x_b : Tx := ⟨"b", by decide +kernel, by decide +kernel⟩
def x_rc : Tx := ⟨"rc", by decide +kernel, by decide +kernel⟩
def d_next_version : Def := ⟨1, false, 3,
 (.cons (.unp [1, 2] (.var 0))
 (.cons (.ret (.ite (.cmp .eq (.var 2) (.tup .nil)) (.tup (.cons (.call "raised" (.cons (.var 1) .nil)) (.cons (.tup (.cons (.cst (.int 0)) .nil)) .nil))) (.tup (.cons (.var 1) (.cons (.tup (.star (.var 2) (.cons (.cst (.int 0)) .nil))) .nil)))))
 .nil))⟩
abbrev H_next_version (P : Str → Option Def) (Γ : Str → Option D) : Prop := P "next_version" = some d_next_version ∧ H_raised P Γ
def t_next_version (v_version : ((Int × Int × Int) × (List Item))) : Option ((Int × Int × Int) × (List Item)) := run (
 (bnd (ret v_version) fun y1 =>
 (bnd (bnd (ret y1.2) fun x => bnd (bnd (ret []) fun xs => lift (fitT xs)) fun y => ret ((fun x y => decide (x = y)) x y)) fun c => if c then (bnd (bnd (ret y1.1) fun a0 => lift (t_raised a0)) fun x => bnd (bnd (bnd (bnd (ret (0 : Int)) fun x => ret (Item.num x)) fun x => bnd (ret []) fun ys => ret (x :: ys)) fun xs => lift (fitT xs)) fun y => ret (x, y)) else (bnd (ret y1.1) fun x => bnd (bnd (bnd (ret y1.2) fun xs => bnd (bnd (bnd (ret (0 : Int)) fun x => ret (Item.num x)) fun x => bnd (ret []) fun ys => ret (x :: ys)) fun ys => ret (xs ++ ys)) fun xs => lift (fitT xs)) fun y => ret (x, y)))))
theorem w_next_version {P : Str → Option Def} {Γ : Str → Option D} (H : H_next_version P Γ) (n : Nat) (v_version : ((Int × Int × Int) × (List Item))) : Fv (callD P Γ (n + 2)) "next_version" [(eP (e3 eI eI eI) (eT eIt)) v_version] (wv (eP (e3 eI eI eI) (eT eIt))) (t_next_version v_version) := by
 refine Fv.mk H.1 ⟨rfl, by decide⟩ ?_
 refine Ex.unp (ea := (eP (e3 eI eI eI) (eT eIt))) (Sv.f (Sv.var (x := v_version) (ea := (eP (e3 eI eI eI) (eT eIt))) rfl)) (fun _ => rfl) fun y1 => ?_
 exact Ex.ret0 (ea := (eP (e3 eI eI eI) (eT eIt))) (Sv.ite (Sv.cmp (g := (fun x y => decide (x = y))) (cmp_eq (e := (eT eIt)) (by decide)) (Sv.k (Sv.var (x := y1.2) (ea := (eT eIt)) rfl)) (Sv.k (Sv.tupL As.nil))) (Sv.tup2 (ea := (e3 eI eI eI)) (eb := (eT eIt)) (Sv.f (Sv.call1 (ed := (e3 eI eI eI)) (fun a0 => w_raised H.2 (n + 0) a0) (Sv.f (Sv.var (x := y1.1) (ea := (e3 eI eI eI)) rfl)))) (Sv.f (Sv.tupL (As.cons (ea := eIt) (Sv.f (Sv.up (eb := eIt) (g := Item.num) (Sv.cst (x := (0 : Int)) (ea := eI) rfl) (fun _ => rfl))) As.nil)))) (Sv.tup2 (ea := (e3 eI eI eI)) (eb := (eT eIt)) (Sv.f (Sv.var (x := y1.1) (ea := (e3 eI eI eI)) rfl)) (Sv.f (Sv.tupL (As.starT (Sv.k (Sv.var (x := y1.2) (ea := (eT eIt)) rfl)) (As.cons (ea := eIt) (Sv.f (Sv.up (eb := eIt) (g := Item.num) (Sv.cst (x := (0 : Int)) (ea := eI) rfl) (fun _ => rfl))) As.nil)))))) (fun _ => rfl)
def d__law_item_key : Def := ⟨1, false, 1,
 (.cons (.ret (.ite (.isi (.var 0) ["str"]) (.tup (.cons (.cst (.int 1)) (.cons (.cst (.int 0)) (.cons (.var 0) .nil)))) (.tup (.cons (.cst (.int 0)) (.cons (.var 0) (.cons (.cst (.str "")) .nil))))))
 .nil)⟩
abbrev H__law_item_key (P : Str → Option Def) (Γ : Str → Option D) : Prop := P "_law_item_key" = some d__law_item_key
def t__law_item_key (v_item : Item) : Option (Int × Int × Tx) := run (
 (bnd (bnd (ret v_item) fun x => ret (isWordT x)) fun c => if c then (bnd (ret (1 : Int)) fun x => bnd (ret (0 : Int)) fun y => bnd (bnd (ret v_item) fun x => lift (itWord x)) fun z => ret (x, y, z)) else (bnd (ret (0 : Int)) fun x => bnd (bnd (ret v_item) fun x => lift (itNum x)) fun y => bnd (ret x_e) fun z => ret (x, y, z))))
theorem w__law_item_key {P : Str → Option Def} {Γ : Str → Option D} (H : H__law_item_key P Γ) (n : Nat) (v_item : Item) : Fv (callD P Γ (n + 1)) "_law_item_key" [eIt v_item] (wv (e3 eI eI eS)) (t__law_item_key v_item) := by
 refine Fv.mk H ⟨rfl, by decide⟩ ?_
 exact Ex.ret0 (ea := (e3 eI eI eS)) (Sv.ite (isi_word (Sv.k (Sv.var (x := v_item) (ea := eIt) rfl))) (Sv.tup3 (ea := eI) (eb := eI) (ec := eS) (Sv.f (Sv.cst (x := (1 : Int)) (ea := eI) rfl)) (Sv.f (Sv.cst (x := (0 : Int)) (ea := eI) rfl)) (Sv.f (Sv.cast (eb := eS) (g := itWord) (Sv.var (x := v_item) (ea := eIt) rfl) itWord_ok))) (Sv.tup3 (ea := eI) (eb := eI) (ec := eS) (Sv.f (Sv.cst (x := (0 : Int)) (ea := eI) rfl)) (Sv.f (Sv.cast (eb := eI) (g := itNum) (Sv.var (x := v_item) (ea := eIt) rfl) itNum_ok)) (Sv.f (Sv.cst (x := x_e) (ea := eS) rfl)))) (fun _ => rfl)
def d__law_key : Def := ⟨1, false, 3,
 (.cons (.set 1 (.comp (.name 2) (.ex (.sub (.var 0) (.cst (.int 1)))) (.cst (.bool true)) (.elt (.call "_law_item_key" (.cons (.var 2) .nil)))))
 (.cons (.ret (.tup (.cons (.sub (.var 0) (.cst (.int 0))) (.cons (.ite (.cmp .ne (.var 1) (.lst .nil)) (.var 1) (.lst (.cons (.tup (.cons (.cst (.int 2)) (.cons (.cst (.int 0)) (.cons (.cst (.str "")) .nil)))) .nil))) .nil))))
 .nil))⟩
abbrev H__law_key (P : Str → Option Def) (Γ : Str → Option D) : Prop := P "_law_key" = some d__law_key ∧ H__law_item_key P Γ
def t__law_key (v_version : ((Int × Int × Int) × (List Item))) : Option ((Int × Int × Int) × (List (Int × Int × Tx))) := run (
 (bnd (bnd (bnd (ret v_version) fun x => ret ((fun x => x.2) x)) fun xs => mapT (fun x2 => (bnd (ret x2) fun a0 => lift (t__law_item_key a0))) xs) fun y1 =>
 (bnd (bnd (ret v_version) fun x => ret ((fun x => x.1) x)) fun x => bnd (bnd (bnd (ret y1) fun x => bnd (bnd (ret []) fun xs => lift (fitT xs)) fun y => ret ((fun x y => !decide (x = y)) x y)) fun c => if c then (ret y1) else (bnd (bnd (bnd (ret (2 : Int)) fun x => bnd (ret (0 : Int)) fun y => bnd (ret x_e) fun z => ret (x, y, z)) fun x => bnd (ret []) fun ys => ret (x :: ys)) fun xs => lift (fitT xs))) fun y => ret (x, y))))
theorem w__law_key {P : Str → Option Def} {Γ : Str → Option D} (H : H__law_key P Γ) (n : Nat) (v_version : ((Int × Int × Int) × (List Item))) : Fv (callD P Γ (n + 2)) "_law_key" [(eP (e3 eI eI eI) (eT eIt)) v_version] (wv (eP (e3 eI eI eI) (eL (e3 eI eI eS)))) (t__law_key v_version) := by
 refine Fv.mk H.1 ⟨rfl, by decide⟩ ?_
 refine Ex.set (ea := (eL (e3 eI eI eS))) (So.f (So.comp (ea := eIt) (eb := (e3 eI eI eS)) (It.exT (ea := eIt) (Sv.f (Sv.fld (g := (fun x => x.2)) fld_p1 (Sv.k (Sv.var (x := v_version) (ea := (eP (e3 eI eI eI) (eT eIt))) rfl))))) fun x2 => ⟨_, rfl, (Sv.f (Sv.call1 (ed := (e3 eI eI eS)) (fun a0 => w__law_item_key H.2 (n + 0) a0) (Sv.f (Sv.var (x := x2) (ea := eIt) rfl))))⟩)) fun y1 => ?_
 exact Ex.ret0 (ea := (eP (e3 eI eI eI) (eL (e3 eI eI eS)))) (Sv.tup2 (ea := (e3 eI eI eI)) (eb := (eL (e3 eI eI eS))) (Sv.f (Sv.fld (g := (fun x => x.1)) fld_p0 (Sv.k (Sv.var (x := v_version) (ea := (eP (e3 eI eI eI) (eT eIt))) rfl)))) (Sf.ite (Sv.cmp (g := (fun x y => !decide (x = y))) (cmp_ne (e := (eL (e3 eI eI eS))) (by decide)) (Sv.k (Sv.var (x := y1) (ea := (eL (e3 eI eI eS))) rfl)) (So.k (So.lst As.nil))) (Sv.f (Sv.var (x := y1) (ea := (eL (e3 eI eI eS))) rfl)) (So.f (So.lst (As.cons (ea := (e3 eI eI eS)) (Sv.f (Sv.tup3 (ea := eI) (eb := eI) (ec := eS) (Sv.f (Sv.cst (x := (2 : Int)) (ea := eI) rfl)) (Sv.f (Sv.cst (x := (0 : Int)) (ea := eI) rfl)) (Sv.f (Sv.cst (x := x_e) (ea := eS) rfl)))) As.nil))))) (fun _ => rfl)
def s__law_next_1 : S := .ite (.cmp .eq (.sub (.var 0) (.cst (.int 1))) (.tup .nil))
 (.cons (.ret (.tup (.cons (.call "_law_more" (.cons (.sub (.var 0) (.cst (.int 0))) .nil)) (.cons (.tup (.cons (.cst (.int 0)) .nil)) .nil))))
 .nil)
 .nil
def d__law_next : Def := ⟨1, false, 1,
 (.cons s__law_next_1
 (.cons (.ret (.tup (.cons (.sub (.var 0) (.cst (.int 0))) (.cons (.bin .add (.sub (.var 0) (.cst (.int 1))) (.tup (.cons (.cst (.int 0)) .nil))) .nil))))
 .nil))⟩
abbrev H__law_next (P : Str → Option Def) (Γ : Str → Option D) : Prop := P "_law_next" = some d__law_next ∧ H__law_more P Γ
def t__law_next (v_version : ((Int × Int × Int) × (List Item))) : Option ((Int × Int × Int) × (List Item)) := run (
 (bnd (bnd (bnd (ret v_version) fun x => ret ((fun x => x.2) x)) fun x => bnd (bnd (ret []) fun xs => lift (fitT xs)) fun y => ret ((fun x y => decide (x = y)) x y)) fun c => if c then
  (bnd (bnd (bnd (ret v_version) fun x => ret ((fun x => x.1) x)) fun a0 => lift (t__law_more a0)) fun x => bnd (bnd (bnd (bnd (ret (0 : Int)) fun x => ret (Item.num x)) fun x => bnd (ret []) fun ys => ret (x :: ys)) fun xs => lift (fitT xs)) fun y => ret (x, y))
 else
  (bnd (bnd (ret v_version) fun x => ret ((fun x => x.1) x)) fun x => bnd (bnd (bnd (ret v_version) fun x => ret ((fun x => x.2) x)) fun x => bnd (bnd (bnd (bnd (ret (0 : Int)) fun x => ret (Item.num x)) fun x => bnd (ret []) fun ys => ret (x :: ys)) fun xs => lift (fitT xs)) fun y => lift (catT x y)) fun y => ret (x, y))))
theorem w__law_next {P : Str → Option Def} {Γ : Str → Option D} (H : H__law_next P Γ) (n : Nat) (v_version : ((Int × Int × Int) × (List Item))) : Fv (callD P Γ (n + 2)) "_law_next" [(eP (e3 eI eI eI) (eT eIt)) v_version] (wv (eP (e3 eI eI eI) (eT eIt))) (t__law_next v_version) := by
 refine Fv.mk H.1 ⟨rfl, by decide⟩ ?_
 refine Ex.ite (Sv.cmp (g := (fun x y => decide (x = y))) (cmp_eq (e := (eT eIt)) (by decide)) (Sv.k (Sv.fld (g := (fun x => x.2)) fld_p1 (Sv.k (Sv.var (x := v_version) (ea := (eP (e3 eI eI eI) (eT eIt))) rfl)))) (Sv.k (Sv.tupL As.nil))) ?_ ?_
 · skip
   exact Ex.ret0 (ea := (eP (e3 eI eI eI) (eT eIt))) (Sv.tup2 (ea := (e3 eI eI eI)) (eb := (eT eIt)) (Sv.f (Sv.call1 (ed := (e3 eI eI eI)) (fun a0 => w__law_more H.2 (n + 0) a0) (Sv.f (Sv.fld (g := (fun x => x.1)) fld_p0 (Sv.k (Sv.var (x := v_version) (ea := (eP (e3 eI eI eI) (eT eIt))) rfl)))))) (Sv.f (Sv.tupL (As.cons (ea := eIt) (Sv.f (Sv.up (eb := eIt) (g := Item.num) (Sv.cst (x := (0 : Int)) (ea := eI) rfl) (fun _ => rfl))) As.nil)))) (fun _ => rfl)
 · skip
   exact Ex.ret0 (ea := (eP (e3 eI eI eI) (eT eIt))) (Sv.tup2 (ea := (e3 eI eI eI)) (eb := (eT eIt)) (Sv.f (Sv.fld (g := (fun x => x.1)) fld_p0 (Sv.k (Sv.var (x := v_version) (ea := (eP (e3 eI eI eI) (eT eIt))) rfl)))) (Sv.f (Sv.op (op_addT (e := eIt)) (Sv.k (Sv.fld (g := (fun x => x.2)) fld_p1 (Sv.k (Sv.var (x := v_version) (ea := (eP (e3 eI eI eI) (eT eIt))) rfl)))) (Sv.k (Sv.tupL (As.cons (ea := eIt) (Sv.f (Sv.up (eb := eIt) (g := Item.num) (Sv.cst (x := (0 : Int)) (ea := eI) rfl) (fun _ => rfl))) As.nil)))))) (fun _ => rfl)
abbrev H__law_tail (P : Str → Option Def) (Γ : Str → Option D) : Prop := P "_law_tail" = some d__law_tail ∧ H__law_draw P Γ
def t__law_tail  : M (List Item) :=
 (bnd (bnd (ret []) fun xs => lift (fitT xs)) fun y1 =>
 (bnd (bnd (bnd (bnd (bnd (ret (0 : Int)) fun x => bnd (bnd (ret (0 : Int)) fun x => bnd (bnd (ret (0 : Int)) fun x => bnd (bnd (ret (1 : Int)) fun x => bnd (bnd (ret (1 : Int)) fun x => bnd (bnd (ret (2 : Int)) fun x => bnd (bnd (ret (3 : Int)) fun x => bnd (bnd (ret (4 : Int)) fun x => bnd (ret []) fun ys => ret (x :: ys)) fun ys => ret (x :: ys)) fun ys => ret (x :: ys)) fun ys => ret (x :: ys)) fun ys => ret (x :: ys)) fun ys => ret (x :: ys)) fun ys => ret (x :: ys)) fun ys => ret (x :: ys)) fun xs => lift (fitT xs)) fun x => bnd (needT (bnd (ret (8 : Int)) fun a0 => needT (t__law_draw a0))) fun y => lift (atT x y)) fun n => lift (rangeT n)) fun xs => bnd (foldT (fun (s2 : (List Item)) x3 =>
   (bnd (bnd (ret s2) fun x => bnd (bnd (bnd (bnd (bnd (bnd (bnd (ret (0 : Int)) fun x => ret (Item.num x)) fun x => bnd (bnd (bnd (ret (1 : Int)) fun x => ret (Item.num x)) fun x => bnd (bnd (bnd (ret (2 : Int)) fun x => ret (Item.num x)) fun x => bnd (bnd (bnd (ret x_a) fun x => ret (Item.word x)) fun x => bnd (bnd (bnd (ret x_b) fun x => ret (Item.word x)) fun x => bnd (bnd (bnd (ret x_rc) fun x => ret (Item.word x)) fun x => bnd (bnd (bnd (ret (10 : Int)) fun x => ret (Item.num x)) fun x => bnd (bnd (bnd (ret (0 : Int)) fun x => ret (Item.num x)) fun x => bnd (ret []) fun ys => ret (x :: ys)) fun ys => ret (x :: ys)) fun ys => ret (x :: ys)) fun ys => ret (x :: ys)) fun ys => ret (x :: ys)) fun ys => ret (x :: ys)) fun ys => ret (x :: ys)) fun ys => ret (x :: ys)) fun xs => lift (fitT xs)) fun x => bnd (needT (bnd (ret (8 : Int)) fun a0 => needT (t__law_draw a0))) fun y => lift (atT x y)) fun x => bnd (ret []) fun ys => ret (x :: ys)) fun xs => lift (fitT xs)) fun y => lift (catT x y)) fun y5 =>
   (ret y5))) xs y1) (fun s6 =>
 (ret s6))))
theorem w__law_tail {P : Str → Option Def} {Γ : Str → Option D} (H : H__law_tail P Γ) (n : Nat)  : Ft (callD P Γ (n + 2)) "_law_tail" [] (wv (eT eIt)) (t__law_tail) := by
 refine Ft.mk H.1 ⟨rfl, by decide⟩ ?_
 refine Ex.set (ea := (eT eIt)) (Sv.f (Sv.tupL As.nil)) fun y1 => ?_
 refine Ex.for0 (σ := (List Item)) (fun (s : (List Item)) (ρ : Env) => ∃ g4 : Option R, ρ = [none, some (.val ((eT eIt) s)), g4]) (ea := eI) (It.rng (Sv.sub (sub_atL (e := eI)) (So.k (So.lst (As.cons (ea := eI) (Sv.f (Sv.cst (x := (0 : Int)) (ea := eI) rfl)) (As.cons (ea := eI) (Sv.f (Sv.cst (x := (0 : Int)) (ea := eI) rfl)) (As.cons (ea := eI) (Sv.f (Sv.cst (x := (0 : Int)) (ea := eI) rfl)) (As.cons (ea := eI) (Sv.f (Sv.cst (x := (1 : Int)) (ea := eI) rfl)) (As.cons (ea := eI) (Sv.f (Sv.cst (x := (1 : Int)) (ea := eI) rfl)) (As.cons (ea := eI) (Sv.f (Sv.cst (x := (2 : Int)) (ea := eI) rfl)) (As.cons (ea := eI) (Sv.f (Sv.cst (x := (3 : Int)) (ea := eI) rfl)) (As.cons (ea := eI) (Sv.f (Sv.cst (x := (4 : Int)) (ea := eI) rfl)) As.nil)))))))))) (Sv.k (Sv.callT1 (ed := eI) (fun a0 => w__law_draw H.2 (n + 0) a0) (Sv.f (Sv.cst (x := (8 : Int)) (ea := eI) rfl)))))) ⟨_, rfl⟩ (fun s2 x3 ρ' hJ => ?_) (fun s6 ρ' hJ => ?_)
 · obtain ⟨g4, rfl⟩ := hJ
   refine ⟨_, rfl, ?_⟩
   refine Ex.set (ea := (eT eIt)) (Sv.f (Sv.op (op_addT (e := eIt)) (Sv.k (Sv.var (x := s2) (ea := (eT eIt)) rfl)) (Sv.k (Sv.tupL (As.cons (ea := eIt) (Sv.f (Sv.sub (sub_atL (e := eIt)) (So.k (So.lst (As.cons (ea := eIt) (Sv.f (Sv.up (eb := eIt) (g := Item.num) (Sv.cst (x := (0 : Int)) (ea := eI) rfl) (fun _ => rfl))) (As.cons (ea := eIt) (Sv.f (Sv.up (eb := eIt) (g := Item.num) (Sv.cst (x := (1 : Int)) (ea := eI) rfl) (fun _ => rfl))) (As.cons (ea := eIt) (Sv.f (Sv.up (eb := eIt) (g := Item.num) (Sv.cst (x := (2 : Int)) (ea := eI) rfl) (fun _ => rfl))) (As.cons (ea := eIt) (Sv.f (Sv.up (eb := eIt) (g := Item.word) (Sv.cst (x := x_a) (ea := eS) rfl) (fun _ => rfl))) (As.cons (ea := eIt) (Sv.f (Sv.up (eb := eIt) (g := Item.word) (Sv.cst (x := x_b) (ea := eS) rfl) (fun _ => rfl))) (As.cons (ea := eIt) (Sv.f (Sv.up (eb := eIt) (g := Item.word) (Sv.cst (x := x_rc) (ea := eS) rfl) (fun _ => rfl))) (As.cons (ea := eIt) (Sv.f (Sv.up (eb := eIt) (g := Item.num) (Sv.cst (x := (10 : Int)) (ea := eI) rfl) (fun _ => rfl))) (As.cons (ea := eIt) (Sv.f (Sv.up (eb := eIt) (g := Item.num) (Sv.cst (x := (0 : Int)) (ea := eI) rfl) (fun _ => rfl))) As.nil)))))))))) (Sv.k (Sv.callT1 (ed := eI) (fun a0 => w__law_draw H.2 (n + 0) a0) (Sv.f (Sv.cst (x := (8 : Int)) (ea := eI) rfl)))))) As.nil))))) fun y5 => ?_
   exact Ex.nil (s := y5) ⟨rfl, ⟨_, rfl⟩⟩
 · obtain ⟨g4, rfl⟩ := hJ
   exact Ex.ret0 (ea := (eT eIt)) (Sv.var (x := s6) (ea := (eT eIt)) rfl) (fun _ => rfl)
abbrev H__law_version (P : Str → Option Def) (Γ : Str → Option D) : Prop := P "_law_version" = some d__law_version ∧ H__law_numbers P Γ ∧ H__law_tail P Γ
def t__law_version (v_most : Int) : M ((Int × Int × Int) × (List Item)) :=
 (bnd (needT (bnd (ret v_most) fun a0 => needT (t__law_numbers a0))) fun x => bnd (needT (needT (t__law_tail))) fun y => ret (x, y))
theorem w__law_version {P : Str → Option Def} {Γ : Str → Option D} (H : H__law_version P Γ) (n : Nat) (v_most : Int) : Ft (callD P Γ (n + 3)) "_law_version" [eI v_most] (wv (eP (e3 eI eI eI) (eT eIt))) (t__law_version v_most) := by
 refine Ft.mk H.1 ⟨rfl, by decide⟩ ?_
 exact Ex.ret0 (ea := (eP (e3 eI eI eI) (eT eIt))) (Sv.tup2 (ea := (e3 eI eI eI)) (eb := (eT eIt)) (Sv.f (Sv.callT1 (ed := (e3 eI eI eI)) (fun a0 => w__law_numbers H.2.1 (n + 0) a0) (Sv.f (Sv.var (x := v_most) (ea := eI) rfl)))) (Sv.f (Sv.callT0 (ed := (eT eIt)) (w__law_tail H.2.2 (n + 0)) ))) (fun _ => rfl)
end Ev

set_option Elab.async false
set_option linter.all false
set_option maxRecDepth 100000
set_option maxHeartbeats 1000000
namespace Ev
open PySem
def x_patch : Tx := ⟨"patch", by decide +kernel, by decide +kernel⟩
def x__2a : Tx := ⟨"*", by decide +kernel, by decide +kernel⟩
def x__3c : Tx := ⟨"<", by decide +kernel, by decide +kernel⟩
def x__3c_3d : Tx := ⟨"<=", by decide +kernel, by decide +kernel⟩
def x__3e : Tx := ⟨">", by decide +kernel, by decide +kernel⟩
def x__3e_3d : Tx := ⟨">=", by decide +kernel, by decide +kernel⟩
def x__3d : Tx := ⟨"=", by decide +kernel, by decide +kernel⟩
def x__5e : Tx := ⟨"^", by decide +kernel, by decide +kernel⟩
def x_plain : Tx := ⟨"plain", by decide +kernel, by decide +kernel⟩
def x__7e : Tx := ⟨"~", by decide +kernel, by decide +kernel⟩
def s_ceiling_1 : S := .ite (.cmp .gt (.var 1) (.cst (.int 0)))
 (.cons (.ret (.call "stepped" (.cons (.var 0) (.cons (.cst (.str "major")) .nil))))
 .nil)
 .nil
def d_ceiling : Def := ⟨1, false, 4,
 (.cons (.unp [1, 2, 3] (.var 0))
 (.cons s_ceiling_1
 (.cons (.ret (.call "stepped" (.cons (.var 0) (.cons (.ite (.cmp .gt (.var 2) (.cst (.int 0))) (.cst (.str "minor")) (.cst (.str "patch"))) .nil))))
 .nil)))⟩
abbrev H_ceiling (P : Str → Option Def) (Γ : Str → Option D) : Prop := P "ceiling" = some d_ceiling ∧ H_stepped P Γ
def t_ceiling (v_numbers : (Int × Int × Int)) : Option (Int × Int × Int) := run (
 (bnd (ret v_numbers) fun y1 =>
 (bnd (bnd (ret y1.1) fun x => bnd (ret (0 : Int)) fun y => ret ((fun x y => ltI y x) x y)) fun c => if c then
  (bnd (ret v_numbers) fun a0 => bnd (ret x_major) fun a1 => lift (t_stepped a0 a1))
 else
  (bnd (ret v_numbers) fun a0 => bnd (bnd (bnd (ret y1.2.1) fun x => bnd (ret (0 : Int)) fun y => ret ((fun x y => ltI y x) x y)) fun c => if c then (ret x_minor) else (ret x_patch)) fun a1 => lift (t_stepped a0 a1)))))
theorem w_ceiling {P : Str → Option Def} {Γ : Str → Option D} (H : H_ceiling P Γ) (n : Nat) (v_numbers : (Int × Int × Int)) : Fv (callD P Γ (n + 2)) "ceiling" [(e3 eI eI eI) v_numbers] (wv (e3 eI eI eI)) (t_ceiling v_numbers) := by
 refine Fv.mk H.1 ⟨rfl, by decide⟩ ?_
 refine Ex.unp (ea := (e3 eI eI eI)) (Sv.f (Sv.var (x := v_numbers) (ea := (e3 eI eI eI)) rfl)) (fun _ => rfl) fun y1 => ?_
 refine Ex.ite (Sv.cmp (g := (fun x y => ltI y x)) (cmp_gt (e := eI) (by decide)) (Sv.k (Sv.var (x := y1.1) (ea := eI) rfl)) (Sv.k (Sv.cst (x := (0 : Int)) (ea := eI) rfl))) ?_ ?_
 · skip
   exact Ex.ret0 (ea := (e3 eI eI eI)) (Sv.call2 (ed := (e3 eI eI eI)) (fun a0 a1 => w_stepped H.2 (n + 0) a0 a1) (Sv.f (Sv.var (x := v_numbers) (ea := (e3 eI eI eI)) rfl)) (Sv.f (Sv.cst (x := x_major) (ea := eS) rfl))) (fun _ => rfl)
 · skip
   exact Ex.ret0 (ea := (e3 eI eI eI)) (Sv.call2 (ed := (e3 eI eI eI)) (fun a0 a1 => w_stepped H.2 (n + 0) a0 a1) (Sv.f (Sv.var (x := v_numbers) (ea := (e3 eI eI eI)) rfl)) (Sv.f (Sv.ite (Sv.cmp (g := (fun x y => ltI y x)) (cmp_gt (e := eI) (by decide)) (Sv.k (Sv.var (x := y1.2.1) (ea := eI) rfl)) (Sv.k (Sv.cst (x := (0 : Int)) (ea := eI) rfl))) (Sv.cst (x := x_minor) (ea := eS) rfl) (Sv.cst (x := x_patch) (ea := eS) rfl)))) (fun _ => rfl)
def s_star_bounds_1 : S := .ite (.cmp .eq (.var 0) (.tup .nil))
 (.cons (.ret (.tup (.cons (.tup (.cons (.tup (.cons (.cst (.int 0)) (.cons (.cst (.int 0)) (.cons (.cst (.int 0)) .nil)))) (.cons (.tup .nil) .nil))) (.cons (.cst .none) .nil))))
 .nil)
 .nil
def d_star_bounds : Def := ⟨1, false, 2,
 (.cons s_star_bounds_1
 (.cons (.set 1 (.slt (.tup (.star (.var 0) (.cons (.cst (.int 0)) (.cons (.cst (.int 0)) .nil)))) (.cst (.int 3))))
 (.cons (.ret (.tup (.cons (.tup (.cons (.var 1) (.cons (.tup .nil) .nil))) (.cons (.tup (.cons (.call "stepped" (.cons (.var 1) (.cons (.ite (.cmp .eq (.bi .len (.cons (.var 0) .nil)) (.cst (.int 1))) (.cst (.str "major")) (.cst (.str "minor"))) .nil))) (.cons (.tup (.cons (.cst (.int 0)) .nil)) .nil))) .nil))))
 .nil)))⟩
abbrev H_star_bounds (P : Str → Option Def) (Γ : Str → Option D) : Prop := P "star_bounds" = some d_star_bounds ∧ H_stepped P Γ
def t_star_bounds (v_numbers : (List Int)) : Option (((Int × Int × Int) × (List Item)) × (Option ((Int × Int × Int) × (List Item)))) := run (
 (bnd (bnd (ret v_numbers) fun x => bnd (bnd (ret []) fun xs => lift (fitT xs)) fun y => ret ((fun x y => decide (x = y)) x y)) fun c => if c then
  (bnd (bnd (bnd (ret (0 : Int)) fun x => bnd (ret (0 : Int)) fun y => bnd (ret (0 : Int)) fun z => ret (x, y, z)) fun x => bnd (bnd (ret []) fun xs => lift (fitT xs)) fun y => ret (x, y)) fun x => bnd (bnd (ret ()) fun x => ret ((fun _ => (none : Option ((Int × Int × Int) × (List Item)))) x)) fun y => ret (x, y))
 else
  (bnd (bnd (bnd (bnd (ret v_numbers) fun xs => bnd (bnd (ret (0 : Int)) fun x => bnd (bnd (ret (0 : Int)) fun x => bnd (ret []) fun ys => ret (x :: ys)) fun ys => ret (x :: ys)) fun ys => ret (xs ++ ys)) fun xs => lift (fitT xs)) fun x => bnd (ret (3 : Int)) fun y => ret (cutT x y)) fun y1 =>
  (bnd (bnd (bnd (ret y1) fun x => lift (asNum x)) fun x => bnd (bnd (ret []) fun xs => lift (fitT xs)) fun y => ret (x, y)) fun x => bnd (bnd (bnd (bnd (bnd (ret y1) fun x => lift (asNum x)) fun a0 => bnd (bnd (bnd (bnd (ret v_numbers) fun x => ret ((x.length : Nat) : Int)) fun x => bnd (ret (1 : Int)) fun y => ret ((fun x y => decide (x = y)) x y)) fun c => if c then (ret x_major) else (ret x_minor)) fun a1 => lift (t_stepped a0 a1)) fun x => bnd (bnd (bnd (bnd (ret (0 : Int)) fun x => ret (Item.num x)) fun x => bnd (ret []) fun ys => ret (x :: ys)) fun xs => lift (fitT xs)) fun y => ret (x, y)) fun x => ret (some x)) fun y => ret (x, y)))))
theorem w_star_bounds {P : Str → Option Def} {Γ : Str → Option D} (H : H_star_bounds P Γ) (n : Nat) (v_numbers : (List Int)) : Fv (callD P Γ (n + 2)) "star_bounds" [(eT eI) v_numbers] (wv (eP (eP (e3 eI eI eI) (eT eIt)) (eO (eP (e3 eI eI eI) (eT eIt))))) (t_star_bounds v_numbers) := by
 refine Fv.mk H.1 ⟨rfl, by decide⟩ ?_
 refine Ex.ite (Sv.cmp (g := (fun x y => decide (x = y))) (cmp_eq (e := (eT eI)) (by decide)) (Sv.k (Sv.var (x := v_numbers) (ea := (eT eI)) rfl)) (Sv.k (Sv.tupL As.nil))) ?_ ?_
 · skip
   exact Ex.ret0 (ea := (eP (eP (e3 eI eI eI) (eT eIt)) (eO (eP (e3 eI eI eI) (eT eIt))))) (Sv.tup2 (ea := (eP (e3 eI eI eI) (eT eIt))) (eb := (eO (eP (e3 eI eI eI) (eT eIt)))) (Sv.f (Sv.tup2 (ea := (e3 eI eI eI)) (eb := (eT eIt)) (Sv.f (Sv.tup3 (ea := eI) (eb := eI) (ec := eI) (Sv.f (Sv.cst (x := (0 : Int)) (ea := eI) rfl)) (Sv.f (Sv.cst (x := (0 : Int)) (ea := eI) rfl)) (Sv.f (Sv.cst (x := (0 : Int)) (ea := eI) rfl)))) (Sv.f (Sv.tupL As.nil)))) (Sv.f (Sv.up (eb := (eO (eP (e3 eI eI eI) (eT eIt)))) (g := (fun _ => (none : Option ((Int × Int × Int) × (List Item))))) (Sv.cst (x := ()) (ea := eU) rfl) (fun _ => rfl)))) (fun _ => rfl)
 · skip
   refine Ex.set (ea := (eT eI)) (Sv.f (Sv.slt (slt_T (e := eI)) (Sv.k (Sv.tupL (As.starT (Sv.k (Sv.var (x := v_numbers) (ea := (eT eI)) rfl)) (As.cons (ea := eI) (Sv.f (Sv.cst (x := (0 : Int)) (ea := eI) rfl)) (As.cons (ea := eI) (Sv.f (Sv.cst (x := (0 : Int)) (ea := eI) rfl)) As.nil))))) (Sv.k (Sv.cst (x := (3 : Int)) (ea := eI) rfl)))) fun y1 => ?_
   exact Ex.ret0 (ea := (eP (eP (e3 eI eI eI) (eT eIt)) (eO (eP (e3 eI eI eI) (eT eIt))))) (Sv.tup2 (ea := (eP (e3 eI eI eI) (eT eIt))) (eb := (eO (eP (e3 eI eI eI) (eT eIt)))) (Sv.f (Sv.tup2 (ea := (e3 eI eI eI)) (eb := (eT eIt)) (Sv.f (Sv.cast (eb := (e3 eI eI eI)) (g := asNum) (Sv.var (x := y1) (ea := (eT eI)) rfl) asNum_ok)) (Sv.f (Sv.tupL As.nil)))) (Sv.f (Sv.up (eb := (eO (eP (e3 eI eI eI) (eT eIt)))) (g := some) (Sv.tup2 (ea := (e3 eI eI eI)) (eb := (eT eIt)) (Sv.f (Sv.call2 (ed := (e3 eI eI eI)) (fun a0 a1 => w_stepped H.2 (n + 0) a0 a1) (Sv.f (Sv.cast (eb := (e3 eI eI eI)) (g := asNum) (Sv.var (x := y1) (ea := (eT eI)) rfl) asNum_ok)) (Sv.f (Sv.ite (Sv.cmp (g := (fun x y => decide (x = y))) (cmp_eq (e := eI) (by decide)) (Sv.k (Sv.bi1p (ed := eI) (bi_lenT (e := eI)) (Sv.k (Sv.var (x := v_numbers) (ea := (eT eI)) rfl)))) (Sv.k (Sv.cst (x := (1 : Int)) (ea := eI) rfl))) (Sv.cst (x := x_major) (ea := eS) rfl) (Sv.cst (x := x_minor) (ea := eS) rfl))))) (Sv.f (Sv.tupL (As.cons (ea := eIt) (Sv.f (Sv.up (eb := eIt) (g := Item.num) (Sv.cst (x := (0 : Int)) (ea := eI) rfl) (fun _ => rfl))) As.nil)))) (fun _ => rfl)))) (fun _ => rfl)
def s_part_bounds_1 : S := .ite (.cmp .eq (.var 1) (.cst (.str "*")))
 (.cons (.ret (.call "star_bounds" (.cons (.var 2) .nil)))
 .nil)
 .nil
def s_part_bounds_2 : S := .ite (.cmp .isin (.var 1) (.tup (.cons (.cst (.str "<")) (.cons (.cst (.str "<=")) .nil))))
 (.cons (.ret (.tup (.cons (.glob "FIRST") (.cons (.ite (.cmp .eq (.var 1) (.cst (.str "<"))) (.var 2) (.call "next_version" (.cons (.var 2) .nil))) .nil))))
 .nil)
 .nil
def s_part_bounds_3 : S := .ite (.cmp .isin (.var 1) (.tup (.cons (.cst (.str ">")) (.cons (.cst (.str ">=")) .nil))))
 (.cons (.ret (.tup (.cons (.ite (.cmp .eq (.var 1) (.cst (.str ">="))) (.var 2) (.call "next_version" (.cons (.var 2) .nil))) (.cons (.cst .none) .nil))))
 .nil)
 .nil
def s_part_bounds_4 : S := .ite (.cmp .eq (.var 1) (.cst (.str "=")))
 (.cons (.ret (.tup (.cons (.var 2) (.cons (.call "next_version" (.cons (.var 2) .nil)) .nil))))
 .nil)
 .nil
def d_part_bounds : Def := ⟨1, false, 3,
 (.cons (.unp [1, 2] (.var 0))
 (.cons s_part_bounds_1
 (.cons s_part_bounds_2
 (.cons s_part_bounds_3
 (.cons s_part_bounds_4
 (.cons (.ret (.tup (.cons (.var 2) (.cons (.tup (.cons (.ite (.cmp .eq (.var 1) (.cst (.str "^"))) (.call "ceiling" (.cons (.sub (.var 2) (.cst (.int 0))) .nil)) (.call "stepped" (.cons (.sub (.var 2) (.cst (.int 0))) (.cons (.cst (.str "minor")) .nil)))) (.cons (.tup (.cons (.cst (.int 0)) .nil)) .nil))) .nil))))
 .nil))))))⟩
abbrev H_part_bounds (P : Str → Option Def) (Γ : Str → Option D) : Prop := P "part_bounds" = some d_part_bounds ∧ H_star_bounds P Γ ∧ Γ "FIRST" = some ((eP (e3 eI eI eI) (eT eIt)) c_FIRST) ∧ H_next_version P Γ ∧ H_ceiling P Γ ∧ H_stepped P Γ
def t_part_bounds (v_part : (Tx × Own)) : Option (((Int × Int × Int) × (List Item)) × (Option ((Int × Int × Int) × (List Item)))) := run (
 (bnd (ret v_part) fun y1 =>
 (bnd (bnd (ret y1.1) fun x => bnd (ret x__2a) fun y => ret ((fun x y => decide (x = y)) x y)) fun c => if c then
  (bnd (bnd (ret y1.2) fun x => lift (asNums x)) fun a0 => lift (t_star_bounds a0))
 else
  (bnd (bnd (ret y1.1) fun x => bnd (bnd (bnd (ret x__3c) fun x => bnd (bnd (ret x__3c_3d) fun x => bnd (ret []) fun ys => ret (x :: ys)) fun ys => ret (x :: ys)) fun xs => lift (fitT xs)) fun y => ret ((fun x y => memT x y) x y)) fun c => if c then
   (bnd (ret c_FIRST) fun x => bnd (bnd (bnd (ret y1.1) fun x => bnd (ret x__3c) fun y => ret ((fun x y => decide (x = y)) x y)) fun c => if c then (bnd (bnd (ret y1.2) fun x => lift (asVer x)) fun x => ret (some x)) else (bnd (bnd (bnd (ret y1.2) fun x => lift (asVer x)) fun a0 => lift (t_next_version a0)) fun x => ret (some x))) fun y => ret (x, y))
  else
   (bnd (bnd (ret y1.1) fun x => bnd (bnd (bnd (ret x__3e) fun x => bnd (bnd (ret x__3e_3d) fun x => bnd (ret []) fun ys => ret (x :: ys)) fun ys => ret (x :: ys)) fun xs => lift (fitT xs)) fun y => ret ((fun x y => memT x y) x y)) fun c => if c then
    (bnd (bnd (bnd (ret y1.1) fun x => bnd (ret x__3e_3d) fun y => ret ((fun x y => decide (x = y)) x y)) fun c => if c then (bnd (ret y1.2) fun x => lift (asVer x)) else (bnd (bnd (ret y1.2) fun x => lift (asVer x)) fun a0 => lift (t_next_version a0))) fun x => bnd (bnd (ret ()) fun x => ret ((fun _ => (none : Option ((Int × Int × Int) × (List Item)))) x)) fun y => ret (x, y))
   else
    (bnd (bnd (ret y1.1) fun x => bnd (ret x__3d) fun y => ret ((fun x y => decide (x = y)) x y)) fun c => if c then
     (bnd (bnd (ret y1.2) fun x => lift (asVer x)) fun x => bnd (bnd (bnd (bnd (ret y1.2) fun x => lift (asVer x)) fun a0 => lift (t_next_version a0)) fun x => ret (some x)) fun y => ret (x, y))
    else
     (bnd (bnd (ret y1.2) fun x => lift (asVer x)) fun x => bnd (bnd (bnd (bnd (bnd (ret y1.1) fun x => bnd (ret x__5e) fun y => ret ((fun x y => decide (x = y)) x y)) fun c => if c then (bnd (bnd (bnd (ret y1.2) fun x => lift (asVer x)) fun x => ret ((fun x => x.1) x)) fun a0 => lift (t_ceiling a0)) else (bnd (bnd (bnd (ret y1.2) fun x => lift (asVer x)) fun x => ret ((fun x => x.1) x)) fun a0 => bnd (ret x_minor) fun a1 => lift (t_stepped a0 a1))) fun x => bnd (bnd (bnd (bnd (ret (0 : Int)) fun x => ret (Item.num x)) fun x => bnd (ret []) fun ys => ret (x :: ys)) fun xs => lift (fitT xs)) fun y => ret (x, y)) fun x => ret (some x)) fun y => ret (x, y))))))))
theorem w_part_bounds {P : Str → Option Def} {Γ : Str → Option D} (H : H_part_bounds P Γ) (n : Nat) (v_part : (Tx × Own)) : Fv (callD P Γ (n + 3)) "part_bounds" [(eP eS eOwn) v_part] (wv (eP (eP (e3 eI eI eI) (eT eIt)) (eO (eP (e3 eI eI eI) (eT eIt))))) (t_part_bounds v_part) := by
 refine Fv.mk H.1 ⟨rfl, by decide⟩ ?_
 refine Ex.unp (ea := (eP eS eOwn)) (Sv.f (Sv.var (x := v_part) (ea := (eP eS eOwn)) rfl)) (fun _ => rfl) fun y1 => ?_
 refine Ex.ite (Sv.cmp (g := (fun x y => decide (x = y))) (cmp_eq (e := eS) (by decide)) (Sv.k (Sv.var (x := y1.1) (ea := eS) rfl)) (Sv.k (Sv.cst (x := x__2a) (ea := eS) rfl))) ?_ ?_
 · skip
   exact Ex.ret0 (ea := (eP (eP (e3 eI eI eI) (eT eIt)) (eO (eP (e3 eI eI eI) (eT eIt))))) (Sv.call1 (ed := (eP (eP (e3 eI eI eI) (eT eIt)) (eO (eP (e3 eI eI eI) (eT eIt))))) (fun a0 => w_star_bounds H.2.1 (n + 0) a0) (Sv.f (Sv.cast (eb := (eT eI)) (g := asNums) (Sv.var (x := y1.2) (ea := eOwn) rfl) own_nums))) (fun _ => rfl)
 · skip
   refine Ex.ite (Sv.cmp (g := (fun x y => memT x y)) (cm_inT (e := eS) (fun _ _ h => nomatch h) (by decide)) (Sv.k (Sv.var (x := y1.1) (ea := eS) rfl)) (Sv.k (Sv.tupL (As.cons (ea := eS) (Sv.f (Sv.cst (x := x__3c) (ea := eS) rfl)) (As.cons (ea := eS) (Sv.f (Sv.cst (x := x__3c_3d) (ea := eS) rfl)) As.nil))))) ?_ ?_
   · skip
     exact Ex.ret0 (ea := (eP (eP (e3 eI eI eI) (eT eIt)) (eO (eP (e3 eI eI eI) (eT eIt))))) (Sv.tup2 (ea := (eP (e3 eI eI eI) (eT eIt))) (eb := (eO (eP (e3 eI eI eI) (eT eIt)))) (Sv.f (Sv.glob (x := c_FIRST) (ea := (eP (e3 eI eI eI) (eT eIt))) H.2.2.1)) (Sv.f (Sv.ite (Sv.cmp (g := (fun x y => decide (x = y))) (cmp_eq (e := eS) (by decide)) (Sv.k (Sv.var (x := y1.1) (ea := eS) rfl)) (Sv.k (Sv.cst (x := x__3c) (ea := eS) rfl))) (Sv.up (eb := (eO (eP (e3 eI eI eI) (eT eIt)))) (g := some) (Sv.cast (g := asVer) (Sv.var (x := y1.2) (ea := eOwn) rfl) own_ver) (fun _ => rfl)) (Sv.up (eb := (eO (eP (e3 eI eI eI) (eT eIt)))) (g := some) (Sv.call1 (ed := (eP (e3 eI eI eI) (eT eIt))) (fun a0 => w_next_version H.2.2.2.1 (n + 0) a0) (Sv.f (Sv.cast (eb := (eP (e3 eI eI eI) (eT eIt))) (g := asVer) (Sv.var (x := y1.2) (ea := eOwn) rfl) own_ver))) (fun _ => rfl))))) (fun _ => rfl)
   · skip
     refine Ex.ite (Sv.cmp (g := (fun x y => memT x y)) (cm_inT (e := eS) (fun _ _ h => nomatch h) (by decide)) (Sv.k (Sv.var (x := y1.1) (ea := eS) rfl)) (Sv.k (Sv.tupL (As.cons (ea := eS) (Sv.f (Sv.cst (x := x__3e) (ea := eS) rfl)) (As.cons (ea := eS) (Sv.f (Sv.cst (x := x__3e_3d) (ea := eS) rfl)) As.nil))))) ?_ ?_
     · skip
       exact Ex.ret0 (ea := (eP (eP (e3 eI eI eI) (eT eIt)) (eO (eP (e3 eI eI eI) (eT eIt))))) (Sv.tup2 (ea := (eP (e3 eI eI eI) (eT eIt))) (eb := (eO (eP (e3 eI eI eI) (eT eIt)))) (Sv.f (Sv.ite (Sv.cmp (g := (fun x y => decide (x = y))) (cmp_eq (e := eS) (by decide)) (Sv.k (Sv.var (x := y1.1) (ea := eS) rfl)) (Sv.k (Sv.cst (x := x__3e_3d) (ea := eS) rfl))) (Sv.cast (eb := (eP (e3 eI eI eI) (eT eIt))) (g := asVer) (Sv.var (x := y1.2) (ea := eOwn) rfl) own_ver) (Sv.call1 (ed := (eP (e3 eI eI eI) (eT eIt))) (fun a0 => w_next_version H.2.2.2.1 (n + 0) a0) (Sv.f (Sv.cast (eb := (eP (e3 eI eI eI) (eT eIt))) (g := asVer) (Sv.var (x := y1.2) (ea := eOwn) rfl) own_ver))))) (Sv.f (Sv.up (eb := (eO (eP (e3 eI eI eI) (eT eIt)))) (g := (fun _ => (none : Option ((Int × Int × Int) × (List Item))))) (Sv.cst (x := ()) (ea := eU) rfl) (fun _ => rfl)))) (fun _ => rfl)
     · skip
       refine Ex.ite (Sv.cmp (g := (fun x y => decide (x = y))) (cmp_eq (e := eS) (by decide)) (Sv.k (Sv.var (x := y1.1) (ea := eS) rfl)) (Sv.k (Sv.cst (x := x__3d) (ea := eS) rfl))) ?_ ?_
       · skip
         exact Ex.ret0 (ea := (eP (eP (e3 eI eI eI) (eT eIt)) (eO (eP (e3 eI eI eI) (eT eIt))))) (Sv.tup2 (ea := (eP (e3 eI eI eI) (eT eIt))) (eb := (eO (eP (e3 eI eI eI) (eT eIt)))) (Sv.f (Sv.cast (eb := (eP (e3 eI eI eI) (eT eIt))) (g := asVer) (Sv.var (x := y1.2) (ea := eOwn) rfl) own_ver)) (Sv.f (Sv.up (eb := (eO (eP (e3 eI eI eI) (eT eIt)))) (g := some) (Sv.call1 (ed := (eP (e3 eI eI eI) (eT eIt))) (fun a0 => w_next_version H.2.2.2.1 (n + 0) a0) (Sv.f (Sv.cast (eb := (eP (e3 eI eI eI) (eT eIt))) (g := asVer) (Sv.var (x := y1.2) (ea := eOwn) rfl) own_ver))) (fun _ => rfl)))) (fun _ => rfl)
       · skip
         exact Ex.ret0 (ea := (eP (eP (e3 eI eI eI) (eT eIt)) (eO (eP (e3 eI eI eI) (eT eIt))))) (Sv.tup2 (ea := (eP (e3 eI eI eI) (eT eIt))) (eb := (eO (eP (e3 eI eI eI) (eT eIt)))) (Sv.f (Sv.cast (eb := (eP (e3 eI eI eI) (eT eIt))) (g := asVer) (Sv.var (x := y1.2) (ea := eOwn) rfl) own_ver)) (Sv.f (Sv.up (eb := (eO (eP (e3 eI eI eI) (eT eIt)))) (g := some) (Sv.tup2 (ea := (e3 eI eI eI)) (eb := (eT eIt)) (Sv.f (Sv.ite (Sv.cmp (g := (fun x y => decide (x = y))) (cmp_eq (e := eS) (by decide)) (Sv.k (Sv.var (x := y1.1) (ea := eS) rfl)) (Sv.k (Sv.cst (x := x__5e) (ea := eS) rfl))) (Sv.call1 (ed := (e3 eI eI eI)) (fun a0 => w_ceiling H.2.2.2.2.1 (n + 0) a0) (Sv.f (Sv.fld (g := (fun x => x.1)) fld_p0 (Sv.k (Sv.cast (eb := (eP (e3 eI eI eI) (eT eIt))) (g := asVer) (Sv.var (x := y1.2) (ea := eOwn) rfl) own_ver))))) (Sv.call2 (ed := (e3 eI eI eI)) (fun a0 a1 => w_stepped H.2.2.2.2.2 (n + 1) a0 a1) (Sv.f (Sv.fld (g := (fun x => x.1)) fld_p0 (Sv.k (Sv.cast (eb := (eP (e3 eI eI eI) (eT eIt))) (g := asVer) (Sv.var (x := y1.2) (ea := eOwn) rfl) own_ver)))) (Sv.f (Sv.cst (x := x_minor) (ea := eS) rfl))))) (Sv.f (Sv.tupL (As.cons (ea := eIt) (Sv.f (Sv.up (eb := eIt) (g := Item.num) (Sv.cst (x := (0 : Int)) (ea := eI) rfl) (fun _ => rfl))) As.nil)))) (fun _ => rfl)))) (fun _ => rfl)
def s_bounds_1 : S := .for_ (.name 3) (.ex (.var 0))
 (.cons (.unp [4, 5] (.call "part_bounds" (.cons (.var 3) .nil)))
 (.cons (.set 1 (.ite (.call "before" (.cons (.var 1) (.cons (.var 4) .nil))) (.var 4) (.var 1)))
 (.cons (.set 2 (.ite (.or (.cmp .iss (.var 2) (.cst .none)) (.and (.cmp .isnot (.var 5) (.cst .none)) (.call "before" (.cons (.var 5) (.cons (.var 2) .nil))))) (.var 5) (.var 2)))
 .nil)))
def d_bounds : Def := ⟨1, false, 6,
 (.cons (.par [(1, false), (2, false)] (.cons (.glob "FIRST") (.cons (.cst .none) .nil)))
 (.cons s_bounds_1
 (.cons (.ret (.tup (.cons (.var 1) (.cons (.var 2) .nil))))
 .nil)))⟩
abbrev H_bounds (P : Str → Option Def) (Γ : Str → Option D) : Prop := P "bounds" = some d_bounds ∧ Γ "FIRST" = some ((eP (e3 eI eI eI) (eT eIt)) c_FIRST) ∧ H_part_bounds P Γ ∧ H_before P Γ
def t_bounds (v_parts : (List (Tx × Own))) : Option (((Int × Int × Int) × (List Item)) × (Option ((Int × Int × Int) × (List Item)))) := run (
 (bnd (ret c_FIRST) fun y1 => bnd (bnd (ret ()) fun x => ret ((fun _ => (none : Option ((Int × Int × Int) × (List Item)))) x)) fun y2 => 
 (bnd (ret v_parts) fun xs => bnd (foldT (fun (s3 : ((Int × Int × Int) × (List Item)) × (Option ((Int × Int × Int) × (List Item)))) x4 =>
   (bnd (bnd (ret x4) fun a0 => lift (t_part_bounds a0)) fun y8 =>
   (bnd (bnd (bnd (ret s3.1) fun a0 => bnd (ret y8.1) fun a1 => lift (t_before a0 a1)) fun c => if c then (ret y8.1) else (ret s3.1)) fun y9 =>
   (bnd (bnd (bnd (bnd (ret s3.2) fun x => bnd (ret ()) fun y => ret ((fun x _ => Option.isNone x) x y)) fun c => if c then ret true else (bnd (bnd (ret y8.2) fun x => bnd (ret ()) fun y => ret ((fun x _ => !Option.isNone x) x y)) fun c => if c then (bnd (bnd (ret y8.2) fun x => lift ((fun x => x) x)) fun a0 => bnd (bnd (ret s3.2) fun x => lift ((fun x => x) x)) fun a1 => lift (t_before a0 a1)) else ret false)) fun c => if c then (ret y8.2) else (ret s3.2)) fun y10 =>
   (ret (y9, y10)))))) xs (y1, y2)) (fun s11 =>
 (bnd (ret s11.1) fun x => bnd (ret s11.2) fun y => ret (x, y))))))
theorem w_bounds {P : Str → Option Def} {Γ : Str → Option D} (H : H_bounds P Γ) (n : Nat) (v_parts : (List (Tx × Own))) : Fv (callD P Γ (n + 4)) "bounds" [(eT (eP eS eOwn)) v_parts] (wv (eP (eP (e3 eI eI eI) (eT eIt)) (eO (eP (e3 eI eI eI) (eT eIt))))) (t_bounds v_parts) := by
 refine Fv.mk H.1 ⟨rfl, by decide⟩ ?_
 refine Ex.par2 (ra := (wv (eP (e3 eI eI eI) (eT eIt)))) (rb := (wv (eO (eP (e3 eI eI eI) (eT eIt))))) (Sv.glob (x := c_FIRST) (ea := (eP (e3 eI eI eI) (eT eIt))) H.2.1) (Sv.up (eb := (eO (eP (e3 eI eI eI) (eT eIt)))) (g := (fun _ => (none : Option ((Int × Int × Int) × (List Item))))) (Sv.cst (x := ()) (ea := eU) rfl) (fun _ => rfl)) (fun _ _ => rfl) fun y1 y2 => ?_
 refine Ex.for0 (σ := ((Int × Int × Int) × (List Item)) × (Option ((Int × Int × Int) × (List Item)))) (fun (s : ((Int × Int × Int) × (List Item)) × (Option ((Int × Int × Int) × (List Item)))) (ρ : Env) => ∃ g5 g6 g7 : Option R, ρ = [some (.val ((eT (eP eS eOwn)) v_parts)), some (.val ((eP (e3 eI eI eI) (eT eIt)) s.1)), some (.val ((eO (eP (e3 eI eI eI) (eT eIt))) s.2)), g5, g6, g7]) (ea := (eP eS eOwn)) (It.exT (ea := (eP eS eOwn)) (Sv.f (Sv.var (x := v_parts) (ea := (eT (eP eS eOwn))) rfl))) ⟨_, _, _, rfl⟩ (fun s3 x4 ρ' hJ => ?_) (fun s11 ρ' hJ => ?_)
 · obtain ⟨g5, g6, g7, rfl⟩ := hJ
   refine ⟨_, rfl, ?_⟩
   refine Ex.unp (ea := (eP (eP (e3 eI eI eI) (eT eIt)) (eO (eP (e3 eI eI eI) (eT eIt))))) (Sv.f (Sv.call1 (ed := (eP (eP (e3 eI eI eI) (eT eIt)) (eO (eP (e3 eI eI eI) (eT eIt))))) (fun a0 => w_part_bounds H.2.2.1 (n + 0) a0) (Sv.f (Sv.var (x := x4) (ea := (eP eS eOwn)) rfl)))) (fun _ => rfl) fun y8 => ?_
   refine Ex.set (ea := (eP (e3 eI eI eI) (eT eIt))) (Sv.f (Sv.ite (Sv.call2 (ed := eB) (fun a0 a1 => w_before H.2.2.2 (n + 0) a0 a1) (Sv.f (Sv.var (x := s3.1) (ea := (eP (e3 eI eI eI) (eT eIt))) rfl)) (Sv.f (Sv.var (x := y8.1) (ea := (eP (e3 eI eI eI) (eT eIt))) rfl))) (Sv.var (x := y8.1) (ea := (eP (e3 eI eI eI) (eT eIt))) rfl) (Sv.var (x := s3.1) (ea := (eP (e3 eI eI eI) (eT eIt))) rfl))) fun y9 => ?_
   refine Ex.set (ea := (eO (eP (e3 eI eI eI) (eT eIt)))) (Sv.f (Sv.ite (Sv.or (Sv.cmp (g := (fun x _ => Option.isNone x)) (cmp_isN (e := (eP (e3 eI eI eI) (eT eIt)))) (Sv.k (Sv.var (x := s3.2) (ea := (eO (eP (e3 eI eI eI) (eT eIt)))) rfl)) (Sv.k (Sv.cst (x := ()) (ea := eU) rfl))) (Sv.and (Sv.cmp (g := (fun x _ => !Option.isNone x)) (cmp_isnN (e := (eP (e3 eI eI eI) (eT eIt)))) (Sv.k (Sv.var (x := y8.2) (ea := (eO (eP (e3 eI eI eI) (eT eIt)))) rfl)) (Sv.k (Sv.cst (x := ()) (ea := eU) rfl))) (Sv.call2 (ed := eB) (fun a0 a1 => w_before H.2.2.2 (n + 0) a0 a1) (Sv.f (Sv.cast (eb := (eP (e3 eI eI eI) (eT eIt))) (g := (fun x => x)) (Sv.var (x := y8.2) (ea := (eO (eP (e3 eI eI eI) (eT eIt)))) rfl) (fun x y h => by cases h; rfl))) (Sv.f (Sv.cast (eb := (eP (e3 eI eI eI) (eT eIt))) (g := (fun x => x)) (Sv.var (x := s3.2) (ea := (eO (eP (e3 eI eI eI) (eT eIt)))) rfl) (fun x y h => by cases h; rfl)))))) (Sv.var (x := y8.2) (ea := (eO (eP (e3 eI eI eI) (eT eIt)))) rfl) (Sv.var (x := s3.2) (ea := (eO (eP (e3 eI eI eI) (eT eIt)))) rfl))) fun y10 => ?_
   exact Ex.nil (s := (y9, y10)) ⟨rfl, ⟨_, _, _, rfl⟩⟩
 · obtain ⟨g5, g6, g7, rfl⟩ := hJ
   exact Ex.ret0 (ea := (eP (eP (e3 eI eI eI) (eT eIt)) (eO (eP (e3 eI eI eI) (eT eIt))))) (Sv.tup2 (ea := (eP (e3 eI eI eI) (eT eIt))) (eb := (eO (eP (e3 eI eI eI) (eT eIt)))) (Sv.f (Sv.var (x := s11.1) (ea := (eP (e3 eI eI eI) (eT eIt))) rfl)) (Sv.f (Sv.var (x := s11.2) (ea := (eO (eP (e3 eI eI eI) (eT eIt)))) rfl))) (fun _ => rfl)
def d_named : Def := ⟨1, false, 3,
 (.cons (.ret (.bi .sset (.cons (.comp (.tup [1, 2]) (.ex (.var 0)) (.and (.cmp .ne (.var 1) (.cst (.str "*"))) (.cmp .ne (.sub (.var 2) (.cst (.int 1))) (.tup .nil))) (.elt (.sub (.var 2) (.cst (.int 0))))) .nil)))
 .nil)⟩
abbrev H_named (P : Str → Option Def) (Γ : Str → Option D) : Prop := P "named" = some d_named
def t_named (v_parts : (List (Tx × Own))) : Option (List (Int × Int × Int)) := run (
 (bnd (bnd (bnd (ret v_parts) fun xs => filT (fun x1 => (bnd (bnd (ret x1.1) fun x => bnd (ret x__2a) fun y => ret ((fun x y => !decide (x = y)) x y)) fun c => if c then (bnd (bnd (bnd (ret x1.2) fun x => lift (asVer x)) fun x => ret ((fun x => x.2) x)) fun x => bnd (bnd (ret []) fun xs => lift (fitT xs)) fun y => ret ((fun x y => !decide (x = y)) x y)) else ret false)) (fun x1 => (bnd (bnd (ret x1.2) fun x => lift (asVer x)) fun x => ret ((fun x => x.1) x))) xs) fun x => lift (ssetT x)) fun x => ret (x)))
theorem w_named {P : Str → Option Def} {Γ : Str → Option D} (H : H_named P Γ) (n : Nat) (v_parts : (List (Tx × Own))) : Fv (callD P Γ (n + 1)) "named" [(eT (eP eS eOwn)) v_parts] (wo (e3 eI eI eI)) (t_named v_parts) := by
 refine Fv.mk H ⟨rfl, by decide⟩ ?_
 exact Ex.retO (ea := (e3 eI eI eI)) (g := fun x => x) (So.bi1 (ed := (e3 eI eI eI)) sset_N (So.k (So.fil (ea := (eP eS eOwn)) (eb := (e3 eI eI eI)) (It.exT (ea := (eP eS eOwn)) (Sv.f (Sv.var (x := v_parts) (ea := (eT (eP eS eOwn))) rfl))) fun x1 => ⟨_, rfl, (Sv.and (Sv.cmp (g := (fun x y => !decide (x = y))) (cmp_ne (e := eS) (by decide)) (Sv.k (Sv.var (x := x1.1) (ea := eS) rfl)) (Sv.k (Sv.cst (x := x__2a) (ea := eS) rfl))) (Sv.cmp (g := (fun x y => !decide (x = y))) (cmp_ne (e := (eT eIt)) (by decide)) (Sv.k (Sv.fld (g := (fun x => x.2)) fld_p1 (Sv.k (Sv.cast (eb := (eP (e3 eI eI eI) (eT eIt))) (g := asVer) (Sv.var (x := x1.2) (ea := eOwn) rfl) own_ver)))) (Sv.k (Sv.tupL As.nil)))), (Sv.f (Sv.fld (g := (fun x => x.1)) fld_p0 (Sv.k (Sv.cast (eb := (eP (e3 eI eI eI) (eT eIt))) (g := asVer) (Sv.var (x := x1.2) (ea := eOwn) rfl) own_ver))))⟩))) (fun _ => rfl)
def d_is_between : Def := ⟨3, false, 3,
 (.cons (.ret (.and (.cmp .le (.call "key" (.cons (.var 1) .nil)) (.call "key" (.cons (.var 0) .nil))) (.or (.cmp .iss (.var 2) (.cst .none)) (.call "before" (.cons (.var 0) (.cons (.var 2) .nil))))))
 .nil)⟩
abbrev H_is_between (P : Str → Option Def) (Γ : Str → Option D) : Prop := P "is_between" = some d_is_between ∧ H_before P Γ ∧ H_key P Γ
def t_is_between (v_version : ((Int × Int × Int) × (List Item))) (v_low : ((Int × Int × Int) × (List Item))) (v_high : (Option ((Int × Int × Int) × (List Item)))) : Option Bool := run (
 (bnd (bnd (bnd (ret v_low) fun a0 => lift (t_key a0)) fun x => bnd (bnd (ret v_version) fun a0 => lift (t_key a0)) fun y => ret ((fun x y => !(lt3 (lt3 ltI ltI ltI) ltI (ltL (lt3 ltI ltI ltB))) y x) x y)) fun c => if c then (bnd (bnd (ret v_high) fun x => bnd (ret ()) fun y => ret ((fun x _ => Option.isNone x) x y)) fun c => if c then ret true else (bnd (ret v_version) fun a0 => bnd (bnd (ret v_high) fun x => lift ((fun x => x) x)) fun a1 => lift (t_before a0 a1))) else ret false))
theorem w_is_between {P : Str → Option Def} {Γ : Str → Option D} (H : H_is_between P Γ) (n : Nat) (v_version : ((Int × Int × Int) × (List Item))) (v_low : ((Int × Int × Int) × (List Item))) (v_high : (Option ((Int × Int × Int) × (List Item)))) : Fv (callD P Γ (n + 4)) "is_between" [(eP (e3 eI eI eI) (eT eIt)) v_version, (eP (e3 eI eI eI) (eT eIt)) v_low, (eO (eP (e3 eI eI eI) (eT eIt))) v_high] (wv eB) (t_is_between v_version v_low v_high) := by
 refine Fv.mk H.1 ⟨rfl, by decide⟩ ?_
 exact Ex.ret0 (ea := eB) (Sv.and (Sv.cmp (g := (fun x y => !(lt3 (lt3 ltI ltI ltI) ltI (ltL (lt3 ltI ltI ltB))) y x)) (cmp_le (e := (e3 (e3 eI eI eI) eI (eT (e3 eI eI eS)))) (by decide)) (Sv.k (Sv.call1 (ed := (e3 (e3 eI eI eI) eI (eT (e3 eI eI eS)))) (fun a0 => w_key H.2.2 (n + 1) a0) (Sv.f (Sv.var (x := v_low) (ea := (eP (e3 eI eI eI) (eT eIt))) rfl)))) (Sv.k (Sv.call1 (ed := (e3 (e3 eI eI eI) eI (eT (e3 eI eI eS)))) (fun a0 => w_key H.2.2 (n + 1) a0) (Sv.f (Sv.var (x := v_version) (ea := (eP (e3 eI eI eI) (eT eIt))) rfl))))) (Sv.or (Sv.cmp (g := (fun x _ => Option.isNone x)) (cmp_isN (e := (eP (e3 eI eI eI) (eT eIt)))) (Sv.k (Sv.var (x := v_high) (ea := (eO (eP (e3 eI eI eI) (eT eIt)))) rfl)) (Sv.k (Sv.cst (x := ()) (ea := eU) rfl))) (Sv.call2 (ed := eB) (fun a0 a1 => w_before H.2.1 (n + 0) a0 a1) (Sv.f (Sv.var (x := v_version) (ea := (eP (e3 eI eI eI) (eT eIt))) rfl)) (Sv.f (Sv.cast (eb := (eP (e3 eI eI eI) (eT eIt))) (g := (fun x => x)) (Sv.var (x := v_high) (ea := (eO (eP (e3 eI eI eI) (eT eIt)))) rfl) (fun x y h => by cases h; rfl)))))) (fun _ => rfl)
def s_allows_1 : S := .ite (.and (.call "is_between" (.cons (.var 1) (.cons (.var 4) (.cons (.var 5) .nil)))) (.or (.cmp .eq (.sub (.var 1) (.cst (.int 1))) (.tup .nil)) (.or (.cmp .eq (.var 2) (.cst (.str "plain"))) (.cmp .isin (.sub (.var 1) (.cst (.int 0))) (.call "named" (.cons (.var 3) .nil))))))
 (.cons (.ret (.cst (.bool true)))
 .nil)
 .nil
def s_allows_2 : S := .for_ (.name 3) (.ex (.var 0))
 (.cons (.unp [4, 5] (.call "bounds" (.cons (.var 3) .nil)))
 (.cons s_allows_1
 .nil))
def d_allows : Def := ⟨3, false, 6,
 (.cons s_allows_2
 (.cons (.ret (.cst (.bool false)))
 .nil))⟩
abbrev H_allows (P : Str → Option Def) (Γ : Str → Option D) : Prop := P "allows" = some d_allows ∧ H_bounds P Γ ∧ H_named P Γ ∧ H_is_between P Γ
def t_allows (v_spans : (List (List (Tx × Own)))) (v_version : ((Int × Int × Int) × (List Item))) (v_rule : Tx) : Option Bool := run (
 (bnd (ret v_spans) fun xs => bnd (forT (fun (s1 : Unit) x2 =>
   (bnd (bnd (ret x2) fun a0 => lift (t_bounds a0)) fun y6 =>
   (bnd (bnd (bnd (ret v_version) fun a0 => bnd (ret y6.1) fun a1 => bnd (ret y6.2) fun a2 => lift (t_is_between a0 a1 a2)) fun c => if c then (bnd (bnd (bnd (ret v_version) fun x => ret ((fun x => x.2) x)) fun x => bnd (bnd (ret []) fun xs => lift (fitT xs)) fun y => ret ((fun x y => decide (x = y)) x y)) fun c => if c then ret true else (bnd (bnd (ret v_rule) fun x => bnd (ret x_plain) fun y => ret ((fun x y => decide (x = y)) x y)) fun c => if c then ret true else (bnd (bnd (ret v_version) fun x => ret ((fun x => x.1) x)) fun x => bnd (bnd (ret x2) fun a0 => lift (t_named a0)) fun y => ret ((fun x y => memT x y) x y)))) else ret false) fun c => if c then
    (bnd (ret true) fun x => ret (Sum.inl (x)))
   else
    (ret (Sum.inr ()))))) xs ()) (outT fun s7 =>
 (ret false))))
theorem w_allows {P : Str → Option Def} {Γ : Str → Option D} (H : H_allows P Γ) (n : Nat) (v_spans : (List (List (Tx × Own)))) (v_version : ((Int × Int × Int) × (List Item))) (v_rule : Tx) : Fv (callD P Γ (n + 5)) "allows" [(eT (eT (eP eS eOwn))) v_spans, (eP (e3 eI eI eI) (eT eIt)) v_version, eS v_rule] (wv eB) (t_allows v_spans v_version v_rule) := by
 refine Fv.mk H.1 ⟨rfl, by decide⟩ ?_
 refine Ex.for1 (σ := Unit) (fun (s : Unit) (ρ : Env) => ∃ g3 g4 g5 : Option R, ρ = [some (.val ((eT (eT (eP eS eOwn))) v_spans)), some (.val ((eP (e3 eI eI eI) (eT eIt)) v_version)), some (.val (eS v_rule)), g3, g4, g5]) (ea := (eT (eP eS eOwn))) (It.exT (ea := (eT (eP eS eOwn))) (Sv.f (Sv.var (x := v_spans) (ea := (eT (eT (eP eS eOwn)))) rfl))) ⟨_, _, _, rfl⟩ (fun s1 x2 ρ' hJ => ?_) (fun s7 ρ' hJ => ?_)
 · obtain ⟨g3, g4, g5, rfl⟩ := hJ
   refine ⟨_, rfl, ?_⟩
   refine Ex.unp (ea := (eP (eP (e3 eI eI eI) (eT eIt)) (eO (eP (e3 eI eI eI) (eT eIt))))) (Sv.f (Sv.call1 (ed := (eP (eP (e3 eI eI eI) (eT eIt)) (eO (eP (e3 eI eI eI) (eT eIt))))) (fun a0 => w_bounds H.2.1 (n + 0) a0) (Sv.f (Sv.var (x := x2) (ea := (eT (eP eS eOwn))) rfl)))) (fun _ => rfl) fun y6 => ?_
   refine Ex.ite (Sv.and (Sv.call3 (ed := eB) (fun a0 a1 a2 => w_is_between H.2.2.2 (n + 0) a0 a1 a2) (Sv.f (Sv.var (x := v_version) (ea := (eP (e3 eI eI eI) (eT eIt))) rfl)) (Sv.f (Sv.var (x := y6.1) (ea := (eP (e3 eI eI eI) (eT eIt))) rfl)) (Sv.f (Sv.var (x := y6.2) (ea := (eO (eP (e3 eI eI eI) (eT eIt)))) rfl))) (Sv.or (Sv.cmp (g := (fun x y => decide (x = y))) (cmp_eq (e := (eT eIt)) (by decide)) (Sv.k (Sv.fld (g := (fun x => x.2)) fld_p1 (Sv.k (Sv.var (x := v_version) (ea := (eP (e3 eI eI eI) (eT eIt))) rfl)))) (Sv.k (Sv.tupL As.nil))) (Sv.or (Sv.cmp (g := (fun x y => decide (x = y))) (cmp_eq (e := eS) (by decide)) (Sv.k (Sv.var (x := v_rule) (ea := eS) rfl)) (Sv.k (Sv.cst (x := x_plain) (ea := eS) rfl))) (Sv.cmp (g := (fun x y => memT x y)) (cm_inL (e := (e3 eI eI eI)) (by decide)) (Sv.k (Sv.fld (g := (fun x => x.1)) fld_p0 (Sv.k (Sv.var (x := v_version) (ea := (eP (e3 eI eI eI) (eT eIt))) rfl)))) (So.k (So.call1 (ed := (e3 eI eI eI)) (fun a0 => w_named H.2.2.1 (n + 3) a0) (Sv.f (Sv.var (x := x2) (ea := (eT (eP eS eOwn))) rfl)))))))) ?_ ?_
   · skip
     exact Ex.ret (ea := eB) (g := fun x => Sum.inl (x)) (Sv.cst (x := true) (ea := eB) rfl) (fun _ => ⟨(fun h => (nomatch h)), rfl⟩)
   · skip
     exact Ex.nil (s := Sum.inr ()) ⟨rfl, ⟨_, _, _, rfl⟩⟩
 · obtain ⟨g3, g4, g5, rfl⟩ := hJ
   exact Ex.ret0 (ea := eB) (Sv.cst (x := false) (ea := eB) rfl) (fun _ => rfl)
def s__law_part_1 : S := .ite (.cmp .eq (.callT "_law_draw" (.cons (.cst (.int 6)) .nil)) (.cst (.int 0)))
 (.cons (.ret (.tup (.cons (.cst (.str "*")) (.cons (.slt (.callT "_law_numbers" (.cons (.var 1) .nil)) (.callT "_law_draw" (.cons (.cst (.int 3)) .nil))) .nil))))
 .nil)
 .nil
def d__law_part : Def := ⟨2, true, 3,
 (.cons s__law_part_1
 (.cons (.set 2 (.sub (.lst (.cons (.cst (.str "<")) (.cons (.cst (.str "<=")) (.cons (.cst (.str "=")) (.cons (.cst (.str ">")) (.cons (.cst (.str ">=")) (.cons (.cst (.str ">=")) (.cons (.cst (.str "^")) (.cons (.cst (.str "~")) (.cons (.cst (.str "<")) .nil)))))))))) (.callT "_law_draw" (.cons (.cst (.int 9)) .nil))))
 (.cons (.ret (.tup (.cons (.var 2) (.cons (.callT "_law_version" (.cons (.var 1) .nil)) .nil))))
 .nil)))⟩
abbrev H__law_part (P : Str → Option Def) (Γ : Str → Option D) : Prop := P "_law_part" = some d__law_part ∧ H__law_draw P Γ ∧ H__law_numbers P Γ ∧ H__law_version P Γ
def t__law_part (v_most : Int) : M (Tx × Own) :=
 (bnd (bnd (needT (bnd (ret (6 : Int)) fun a0 => needT (t__law_draw a0))) fun x => bnd (ret (0 : Int)) fun y => ret ((fun x y => decide (x = y)) x y)) fun c => if c then
  (bnd (ret x__2a) fun x => bnd (bnd (bnd (bnd (needT (bnd (ret v_most) fun a0 => needT (t__law_numbers a0))) fun x => ret (numL x)) fun x => bnd (needT (bnd (ret (3 : Int)) fun a0 => needT (t__law_draw a0))) fun y => ret (cutT x y)) fun x => ret (Own.nums x)) fun y => ret (x, y))
 else
  (bnd (bnd (bnd (bnd (ret x__3c) fun x => bnd (bnd (ret x__3c_3d) fun x => bnd (bnd (ret x__3d) fun x => bnd (bnd (ret x__3e) fun x => bnd (bnd (ret x__3e_3d) fun x => bnd (bnd (ret x__3e_3d) fun x => bnd (bnd (ret x__5e) fun x => bnd (bnd (ret x__7e) fun x => bnd (bnd (ret x__3c) fun x => bnd (ret []) fun ys => ret (x :: ys)) fun ys => ret (x :: ys)) fun ys => ret (x :: ys)) fun ys => ret (x :: ys)) fun ys => ret (x :: ys)) fun ys => ret (x :: ys)) fun ys => ret (x :: ys)) fun ys => ret (x :: ys)) fun ys => ret (x :: ys)) fun xs => lift (fitT xs)) fun x => bnd (needT (bnd (ret (9 : Int)) fun a0 => needT (t__law_draw a0))) fun y => lift (atT x y)) fun y1 =>
  (bnd (ret y1) fun x => bnd (bnd (needT (bnd (ret v_most) fun a0 => needT (t__law_version a0))) fun x => ret (Own.ver x)) fun y => ret (x, y))))
theorem w__law_part {P : Str → Option Def} {Γ : Str → Option D} (H : H__law_part P Γ) (n : Nat) (v_most : Int) : Ft (callD P Γ (n + 4)) "_law_part" [eI v_most] (wv (eP eS eOwn)) (t__law_part v_most) := by
 refine Ft.mk H.1 ⟨rfl, by decide⟩ ?_
 refine Ex.ite (Sv.cmp (g := (fun x y => decide (x = y))) (cmp_eq (e := eI) (by decide)) (Sv.k (Sv.callT1 (ed := eI) (fun a0 => w__law_draw H.2.1 (n + 2) a0) (Sv.f (Sv.cst (x := (6 : Int)) (ea := eI) rfl)))) (Sv.k (Sv.cst (x := (0 : Int)) (ea := eI) rfl))) ?_ ?_
 · skip
   exact Ex.ret0 (ea := (eP eS eOwn)) (Sv.tup2 (ea := eS) (eb := eOwn) (Sv.f (Sv.cst (x := x__2a) (ea := eS) rfl)) (Sv.f (Sv.up (eb := eOwn) (g := Own.nums) (Sv.slt (slt_T (e := eI)) (Sv.k (Sv.up (eb := (eT eI)) (g := numL) (Sv.callT1 (ed := (e3 eI eI eI)) (fun a0 => w__law_numbers H.2.2.1 (n + 1) a0) (Sv.f (Sv.var (x := v_most) (ea := eI) rfl))) (fun _ => rfl))) (Sv.k (Sv.callT1 (ed := eI) (fun a0 => w__law_draw H.2.1 (n + 2) a0) (Sv.f (Sv.cst (x := (3 : Int)) (ea := eI) rfl))))) (fun _ => rfl)))) (fun _ => rfl)
 · skip
   refine Ex.set (ea := eS) (Sv.f (Sv.sub (sub_atL (e := eS)) (So.k (So.lst (As.cons (ea := eS) (Sv.f (Sv.cst (x := x__3c) (ea := eS) rfl)) (As.cons (ea := eS) (Sv.f (Sv.cst (x := x__3c_3d) (ea := eS) rfl)) (As.cons (ea := eS) (Sv.f (Sv.cst (x := x__3d) (ea := eS) rfl)) (As.cons (ea := eS) (Sv.f (Sv.cst (x := x__3e) (ea := eS) rfl)) (As.cons (ea := eS) (Sv.f (Sv.cst (x := x__3e_3d) (ea := eS) rfl)) (As.cons (ea := eS) (Sv.f (Sv.cst (x := x__3e_3d) (ea := eS) rfl)) (As.cons (ea := eS) (Sv.f (Sv.cst (x := x__5e) (ea := eS) rfl)) (As.cons (ea := eS) (Sv.f (Sv.cst (x := x__7e) (ea := eS) rfl)) (As.cons (ea := eS) (Sv.f (Sv.cst (x := x__3c) (ea := eS) rfl)) As.nil))))))))))) (Sv.k (Sv.callT1 (ed := eI) (fun a0 => w__law_draw H.2.1 (n + 2) a0) (Sv.f (Sv.cst (x := (9 : Int)) (ea := eI) rfl)))))) fun y1 => ?_
   exact Ex.ret0 (ea := (eP eS eOwn)) (Sv.tup2 (ea := eS) (eb := eOwn) (Sv.f (Sv.var (x := y1) (ea := eS) rfl)) (Sv.f (Sv.up (eb := eOwn) (g := Own.ver) (Sv.callT1 (ed := (eP (e3 eI eI eI) (eT eIt))) (fun a0 => w__law_version H.2.2.2 (n + 0) a0) (Sv.f (Sv.var (x := v_most) (ea := eI) rfl))) (fun _ => rfl)))) (fun _ => rfl)
def s__law_range_1 : S := .for_ (.name 5) (.rng (.sub (.lst (.cons (.cst (.int 1)) (.cons (.cst (.int 1)) (.cons (.cst (.int 2)) (.cons (.cst (.int 2)) (.cons (.cst (.int 3)) (.cons (.cst (.int 0)) .nil))))))) (.callT "_law_draw" (.cons (.cst (.int 6)) .nil))))
 (.cons (.set 4 (.bin .add (.var 4) (.tup (.cons (.callT "_law_part" (.cons (.var 1) .nil)) .nil))))
 .nil)
def s__law_range_2 : S := .for_ (.name 3) (.rng (.bin .add (.cst (.int 1)) (.callT "_law_draw" (.cons (.cst (.int 3)) .nil))))
 (.cons (.set 4 (.tup .nil))
 (.cons s__law_range_1
 (.cons (.set 2 (.bin .add (.var 2) (.tup (.cons (.var 4) .nil))))
 .nil)))
def d__law_range : Def := ⟨2, true, 6,
 (.cons (.set 2 (.tup .nil))
 (.cons s__law_range_2
 (.cons (.ret (.var 2))
 .nil)))⟩
abbrev H__law_range (P : Str → Option Def) (Γ : Str → Option D) : Prop := P "_law_range" = some d__law_range ∧ H__law_draw P Γ ∧ H__law_part P Γ
def t__law_range (v_most : Int) : M (List (List (Tx × Own))) :=
 (bnd (bnd (ret []) fun xs => lift (fitT xs)) fun y1 =>
 (bnd (bnd (bnd (ret (1 : Int)) fun x => bnd (needT (bnd (ret (3 : Int)) fun a0 => needT (t__law_draw a0))) fun y => ret (x + y)) fun n => lift (rangeT n)) fun xs => bnd (foldT (fun (s2 : (List (List (Tx × Own)))) x3 =>
   (bnd (bnd (ret []) fun xs => lift (fitT xs)) fun y7 =>
   (bnd (bnd (bnd (bnd (bnd (ret (1 : Int)) fun x => bnd (bnd (ret (1 : Int)) fun x => bnd (bnd (ret (2 : Int)) fun x => bnd (bnd (ret (2 : Int)) fun x => bnd (bnd (ret (3 : Int)) fun x => bnd (bnd (ret (0 : Int)) fun x => bnd (ret []) fun ys => ret (x :: ys)) fun ys => ret (x :: ys)) fun ys => ret (x :: ys)) fun ys => ret (x :: ys)) fun ys => ret (x :: ys)) fun ys => ret (x :: ys)) fun xs => lift (fitT xs)) fun x => bnd (needT (bnd (ret (6 : Int)) fun a0 => needT (t__law_draw a0))) fun y => lift (atT x y)) fun n => lift (rangeT n)) fun xs => bnd (foldT (fun (s8 : (List (Tx × Own))) x9 =>
     (bnd (bnd (ret s8) fun x => bnd (bnd (bnd (needT (bnd (ret v_most) fun a0 => needT (t__law_part a0))) fun x => bnd (ret []) fun ys => ret (x :: ys)) fun xs => lift (fitT xs)) fun y => lift (catT x y)) fun y11 =>
     (ret y11))) xs y7) (fun s12 =>
   (bnd (bnd (ret s2) fun x => bnd (bnd (bnd (ret s12) fun x => bnd (ret []) fun ys => ret (x :: ys)) fun xs => lift (fitT xs)) fun y => lift (catT x y)) fun y13 =>
   (ret y13)))))) xs y1) (fun s14 =>
 (ret s14))))
theorem w__law_range {P : Str → Option Def} {Γ : Str → Option D} (H : H__law_range P Γ) (n : Nat) (v_most : Int) : Ft (callD P Γ (n + 5)) "_law_range" [eI v_most] (wv (eT (eT (eP eS eOwn)))) (t__law_range v_most) := by
 refine Ft.mk H.1 ⟨rfl, by decide⟩ ?_
 refine Ex.set (ea := (eT (eT (eP eS eOwn)))) (Sv.f (Sv.tupL As.nil)) fun y1 => ?_
 refine Ex.for0 (σ := (List (List (Tx × Own)))) (fun (s : (List (List (Tx × Own)))) (ρ : Env) => ∃ g4 g5 g6 : Option R, ρ = [none, some (.val (eI v_most)), some (.val ((eT (eT (eP eS eOwn))) s)), g4, g5, g6]) (ea := eI) (It.rng (Sv.opp op_addI (Sv.k (Sv.cst (x := (1 : Int)) (ea := eI) rfl)) (Sv.k (Sv.callT1 (ed := eI) (fun a0 => w__law_draw H.2.1 (n + 3) a0) (Sv.f (Sv.cst (x := (3 : Int)) (ea := eI) rfl)))))) ⟨_, _, _, rfl⟩ (fun s2 x3 ρ' hJ => ?_) (fun s14 ρ' hJ => ?_)
 · obtain ⟨g4, g5, g6, rfl⟩ := hJ
   refine ⟨_, rfl, ?_⟩
   refine Ex.set (ea := (eT (eP eS eOwn))) (Sv.f (Sv.tupL As.nil)) fun y7 => ?_
   refine Ex.for0 (σ := (List (Tx × Own))) (fun (s : (List (Tx × Own))) (ρ : Env) => ∃ g10 : Option R, ρ = [none, some (.val (eI v_most)), some (.val ((eT (eT (eP eS eOwn))) s2)), some (.val (eI x3)), some (.val ((eT (eP eS eOwn)) s)), g10]) (ea := eI) (It.rng (Sv.sub (sub_atL (e := eI)) (So.k (So.lst (As.cons (ea := eI) (Sv.f (Sv.cst (x := (1 : Int)) (ea := eI) rfl)) (As.cons (ea := eI) (Sv.f (Sv.cst (x := (1 : Int)) (ea := eI) rfl)) (As.cons (ea := eI) (Sv.f (Sv.cst (x := (2 : Int)) (ea := eI) rfl)) (As.cons (ea := eI) (Sv.f (Sv.cst (x := (2 : Int)) (ea := eI) rfl)) (As.cons (ea := eI) (Sv.f (Sv.cst (x := (3 : Int)) (ea := eI) rfl)) (As.cons (ea := eI) (Sv.f (Sv.cst (x := (0 : Int)) (ea := eI) rfl)) As.nil)))))))) (Sv.k (Sv.callT1 (ed := eI) (fun a0 => w__law_draw H.2.1 (n + 3) a0) (Sv.f (Sv.cst (x := (6 : Int)) (ea := eI) rfl)))))) ⟨_, rfl⟩ (fun s8 x9 ρ' hJ => ?_) (fun s12 ρ' hJ => ?_)
   · obtain ⟨g10, rfl⟩ := hJ
     refine ⟨_, rfl, ?_⟩
     refine Ex.set (ea := (eT (eP eS eOwn))) (Sv.f (Sv.op (op_addT (e := (eP eS eOwn))) (Sv.k (Sv.var (x := s8) (ea := (eT (eP eS eOwn))) rfl)) (Sv.k (Sv.tupL (As.cons (ea := (eP eS eOwn)) (Sv.f (Sv.callT1 (ed := (eP eS eOwn)) (fun a0 => w__law_part H.2.2 (n + 0) a0) (Sv.f (Sv.var (x := v_most) (ea := eI) rfl)))) As.nil))))) fun y11 => ?_
     exact Ex.nil (s := y11) ⟨rfl, ⟨_, rfl⟩⟩
   · obtain ⟨g10, rfl⟩ := hJ
     refine Ex.set (ea := (eT (eT (eP eS eOwn)))) (Sv.f (Sv.op (op_addT (e := (eT (eP eS eOwn)))) (Sv.k (Sv.var (x := s2) (ea := (eT (eT (eP eS eOwn)))) rfl)) (Sv.k (Sv.tupL (As.cons (ea := (eT (eP eS eOwn))) (Sv.f (Sv.var (x := s12) (ea := (eT (eP eS eOwn))) rfl)) As.nil))))) fun y13 => ?_
     exact Ex.nil (s := y13) ⟨rfl, ⟨_, _, _, rfl⟩⟩
 · obtain ⟨g4, g5, g6, rfl⟩ := hJ
   exact Ex.ret0 (ea := (eT (eT (eP eS eOwn)))) (Sv.var (x := s14) (ea := (eT (eT (eP eS eOwn)))) rfl) (fun _ => rfl)
def s__law_top_1 : S := .ite (.or (.and (.cmp .eq (.var 0) (.cst (.str "^"))) (.cmp .gt (.sub (.var 1) (.cst (.int 0))) (.cst (.int 0)))) (.and (.cmp .eq (.var 0) (.cst (.str "*"))) (.cmp .eq (.bi .len (.cons (.var 1) .nil)) (.cst (.int 1)))))
 (.cons (.ret (.tup (.cons (.bin .add (.sub (.var 1) (.cst (.int 0))) (.cst (.int 1))) (.cons (.cst (.int 0)) (.cons (.cst (.int 0)) .nil)))))
 .nil)
 .nil
def s__law_top_2 : S := .ite (.or (.cmp .isin (.var 0) (.tup (.cons (.cst (.str "~")) (.cons (.cst (.str "*")) .nil)))) (.cmp .gt (.sub (.var 1) (.cst (.int 1))) (.cst (.int 0))))
 (.cons (.ret (.tup (.cons (.sub (.var 1) (.cst (.int 0))) (.cons (.bin .add (.sub (.var 1) (.cst (.int 1))) (.cst (.int 1))) (.cons (.cst (.int 0)) .nil)))))
 .nil)
 .nil
def d__law_top : Def := ⟨2, false, 2,
 (.cons s__law_top_1
 (.cons s__law_top_2
 (.cons (.ret (.call "_law_more" (.cons (.var 1) .nil)))
 .nil)))⟩
abbrev H__law_top (P : Str → Option Def) (Γ : Str → Option D) : Prop := P "_law_top" = some d__law_top ∧ H__law_more P Γ
def t__law_top (v_sign : Tx) (v_numbers : (List Int)) : Option (Int × Int × Int) := run (
 (bnd (bnd (bnd (bnd (ret v_sign) fun x => bnd (ret x__5e) fun y => ret ((fun x y => decide (x = y)) x y)) fun c => if c then (bnd (bnd (ret v_numbers) fun x => bnd (ret (0 : Int)) fun y => lift (atT x y)) fun x => bnd (ret (0 : Int)) fun y => ret ((fun x y => ltI y x) x y)) else ret false) fun c => if c then ret true else (bnd (bnd (ret v_sign) fun x => bnd (ret x__2a) fun y => ret ((fun x y => decide (x = y)) x y)) fun c => if c then (bnd (bnd (ret v_numbers) fun x => ret ((x.length : Nat) : Int)) fun x => bnd (ret (1 : Int)) fun y => ret ((fun x y => decide (x = y)) x y)) else ret false)) fun c => if c then
  (bnd (bnd (bnd (ret v_numbers) fun x => bnd (ret (0 : Int)) fun y => lift (atT x y)) fun x => bnd (ret (1 : Int)) fun y => ret (x + y)) fun x => bnd (ret (0 : Int)) fun y => bnd (ret (0 : Int)) fun z => ret (x, y, z))
 else
  (bnd (bnd (bnd (ret v_sign) fun x => bnd (bnd (bnd (ret x__7e) fun x => bnd (bnd (ret x__2a) fun x => bnd (ret []) fun ys => ret (x :: ys)) fun ys => ret (x :: ys)) fun xs => lift (fitT xs)) fun y => ret ((fun x y => memT x y) x y)) fun c => if c then ret true else (bnd (bnd (ret v_numbers) fun x => bnd (ret (1 : Int)) fun y => lift (atT x y)) fun x => bnd (ret (0 : Int)) fun y => ret ((fun x y => ltI y x) x y))) fun c => if c then
   (bnd (bnd (ret v_numbers) fun x => bnd (ret (0 : Int)) fun y => lift (atT x y)) fun x => bnd (bnd (bnd (ret v_numbers) fun x => bnd (ret (1 : Int)) fun y => lift (atT x y)) fun x => bnd (ret (1 : Int)) fun y => ret (x + y)) fun y => bnd (ret (0 : Int)) fun z => ret (x, y, z))
  else
   (bnd (bnd (ret v_numbers) fun x => lift (asNum x)) fun a0 => lift (t__law_more a0)))))
theorem w__law_top {P : Str → Option Def} {Γ : Str → Option D} (H : H__law_top P Γ) (n : Nat) (v_sign : Tx) (v_numbers : (List Int)) : Fv (callD P Γ (n + 2)) "_law_top" [eS v_sign, (eT eI) v_numbers] (wv (e3 eI eI eI)) (t__law_top v_sign v_numbers) := by
 refine Fv.mk H.1 ⟨rfl, by decide⟩ ?_
 refine Ex.ite (Sv.or (Sv.and (Sv.cmp (g := (fun x y => decide (x = y))) (cmp_eq (e := eS) (by decide)) (Sv.k (Sv.var (x := v_sign) (ea := eS) rfl)) (Sv.k (Sv.cst (x := x__5e) (ea := eS) rfl))) (Sv.cmp (g := (fun x y => ltI y x)) (cmp_gt (e := eI) (by decide)) (Sv.k (Sv.sub (sub_atT (e := eI)) (Sv.k (Sv.var (x := v_numbers) (ea := (eT eI)) rfl)) (Sv.k (Sv.cst (x := (0 : Int)) (ea := eI) rfl)))) (Sv.k (Sv.cst (x := (0 : Int)) (ea := eI) rfl)))) (Sv.and (Sv.cmp (g := (fun x y => decide (x = y))) (cmp_eq (e := eS) (by decide)) (Sv.k (Sv.var (x := v_sign) (ea := eS) rfl)) (Sv.k (Sv.cst (x := x__2a) (ea := eS) rfl))) (Sv.cmp (g := (fun x y => decide (x = y))) (cmp_eq (e := eI) (by decide)) (Sv.k (Sv.bi1p (ed := eI) (bi_lenT (e := eI)) (Sv.k (Sv.var (x := v_numbers) (ea := (eT eI)) rfl)))) (Sv.k (Sv.cst (x := (1 : Int)) (ea := eI) rfl))))) ?_ ?_
 · skip
   exact Ex.ret0 (ea := (e3 eI eI eI)) (Sv.tup3 (ea := eI) (eb := eI) (ec := eI) (Sv.f (Sv.opp op_addI (Sv.k (Sv.sub (sub_atT (e := eI)) (Sv.k (Sv.var (x := v_numbers) (ea := (eT eI)) rfl)) (Sv.k (Sv.cst (x := (0 : Int)) (ea := eI) rfl)))) (Sv.k (Sv.cst (x := (1 : Int)) (ea := eI) rfl)))) (Sv.f (Sv.cst (x := (0 : Int)) (ea := eI) rfl)) (Sv.f (Sv.cst (x := (0 : Int)) (ea := eI) rfl))) (fun _ => rfl)
 · skip
   refine Ex.ite (Sv.or (Sv.cmp (g := (fun x y => memT x y)) (cm_inT (e := eS) (fun _ _ h => nomatch h) (by decide)) (Sv.k (Sv.var (x := v_sign) (ea := eS) rfl)) (Sv.k (Sv.tupL (As.cons (ea := eS) (Sv.f (Sv.cst (x := x__7e) (ea := eS) rfl)) (As.cons (ea := eS) (Sv.f (Sv.cst (x := x__2a) (ea := eS) rfl)) As.nil))))) (Sv.cmp (g := (fun x y => ltI y x)) (cmp_gt (e := eI) (by decide)) (Sv.k (Sv.sub (sub_atT (e := eI)) (Sv.k (Sv.var (x := v_numbers) (ea := (eT eI)) rfl)) (Sv.k (Sv.cst (x := (1 : Int)) (ea := eI) rfl)))) (Sv.k (Sv.cst (x := (0 : Int)) (ea := eI) rfl)))) ?_ ?_
   · skip
     exact Ex.ret0 (ea := (e3 eI eI eI)) (Sv.tup3 (ea := eI) (eb := eI) (ec := eI) (Sv.f (Sv.sub (sub_atT (e := eI)) (Sv.k (Sv.var (x := v_numbers) (ea := (eT eI)) rfl)) (Sv.k (Sv.cst (x := (0 : Int)) (ea := eI) rfl)))) (Sv.f (Sv.opp op_addI (Sv.k (Sv.sub (sub_atT (e := eI)) (Sv.k (Sv.var (x := v_numbers) (ea := (eT eI)) rfl)) (Sv.k (Sv.cst (x := (1 : Int)) (ea := eI) rfl)))) (Sv.k (Sv.cst (x := (1 : Int)) (ea := eI) rfl)))) (Sv.f (Sv.cst (x := (0 : Int)) (ea := eI) rfl))) (fun _ => rfl)
   · skip
     exact Ex.ret0 (ea := (e3 eI eI eI)) (Sv.call1 (ed := (e3 eI eI eI)) (fun a0 => w__law_more H.2 (n + 0) a0) (Sv.f (Sv.cast (eb := (e3 eI eI eI)) (g := asNum) (Sv.var (x := v_numbers) (ea := (eT eI)) rfl) asNum_ok))) (fun _ => rfl)
def s__law_concerns_1 : S := .ite (.cmp .lt (.var 4) (.call "_law_key" (.cons (.tup (.cons (.slt (.bin .add (.var 3) (.tup (.cons (.cst (.int 0)) (.cons (.cst (.int 0)) (.cons (.cst (.int 0)) .nil))))) (.cst (.int 3))) (.cons (.tup .nil) .nil))) .nil)))
 (.cons (.ret (.cst (.bool false)))
 .nil)
 .nil
def s__law_concerns_2 : S := .ite (.cmp .eq (.var 2) (.cst (.str "*")))
 (.cons s__law_concerns_1
 (.cons (.ret (.or (.cmp .eq (.var 3) (.tup .nil)) (.cmp .lt (.var 4) (.call "_law_key" (.cons (.tup (.cons (.call "_law_top" (.cons (.cst (.str "*")) (.cons (.var 3) .nil))) (.cons (.tup (.cons (.cst (.int 0)) .nil)) .nil))) .nil)))))
 .nil))
 .nil
def s__law_concerns_3 : S := .ite (.cmp .isin (.var 2) (.tup (.cons (.cst (.str "^")) (.cons (.cst (.str "~")) .nil))))
 (.cons (.ret (.cmp2 .le .lt (.var 5) (.var 4) (.call "_law_key" (.cons (.tup (.cons (.call "_law_top" (.cons (.var 2) (.cons (.sub (.var 3) (.cst (.int 0))) .nil))) (.cons (.tup (.cons (.cst (.int 0)) .nil)) .nil))) .nil))))
 .nil)
 .nil
def d__law_concerns : Def := ⟨2, false, 7,
 (.cons (.unp [2, 3] (.var 0))
 (.cons (.set 4 (.call "_law_key" (.cons (.var 1) .nil)))
 (.cons s__law_concerns_2
 (.cons (.set 5 (.call "_law_key" (.cons (.var 3) .nil)))
 (.cons s__law_concerns_3
 (.cons (.set 6 (.dct ["<", "<=", "=", ">", ">="] (.cons (.cmp .lt (.var 4) (.var 5)) (.cons (.cmp .le (.var 4) (.var 5)) (.cons (.cmp .eq (.var 4) (.var 5)) (.cons (.cmp .gt (.var 4) (.var 5)) (.cons (.cmp .ge (.var 4) (.var 5)) .nil)))))))
 (.cons (.ret (.sub (.var 6) (.var 2)))
 .nil)))))))⟩
abbrev H__law_concerns (P : Str → Option Def) (Γ : Str → Option D) : Prop := P "_law_concerns" = some d__law_concerns ∧ H__law_key P Γ ∧ H__law_top P Γ
def t__law_concerns (v_part : (Tx × Own)) (v_version : ((Int × Int × Int) × (List Item))) : Option Bool := run (
 (bnd (ret v_part) fun y1 =>
 (bnd (bnd (ret v_version) fun a0 => lift (t__law_key a0)) fun y2 =>
 (bnd (bnd (ret y1.1) fun x => bnd (ret x__2a) fun y => ret ((fun x y => decide (x = y)) x y)) fun c => if c then
  (bnd (bnd (ret y2) fun x => bnd (bnd (bnd (bnd (bnd (bnd (bnd (ret y1.2) fun x => lift (asNums x)) fun x => bnd (bnd (bnd (ret (0 : Int)) fun x => bnd (bnd (ret (0 : Int)) fun x => bnd (bnd (ret (0 : Int)) fun x => bnd (ret []) fun ys => ret (x :: ys)) fun ys => ret (x :: ys)) fun ys => ret (x :: ys)) fun xs => lift (fitT xs)) fun y => lift (catT x y)) fun x => bnd (ret (3 : Int)) fun y => ret (cutT x y)) fun x => lift (asNum x)) fun x => bnd (bnd (ret []) fun xs => lift (fitT xs)) fun y => ret (x, y)) fun a0 => lift (t__law_key a0)) fun y => ret ((fun x y => (ltP (lt3 ltI ltI ltI) (ltL (lt3 ltI ltI ltB))) x y) x y)) fun c => if c then
   (ret false)
  else
   (bnd (bnd (bnd (ret y1.2) fun x => lift (asNums x)) fun x => bnd (bnd (ret []) fun xs => lift (fitT xs)) fun y => ret ((fun x y => decide (x = y)) x y)) fun c => if c then ret true else (bnd (ret y2) fun x => bnd (bnd (bnd (bnd (ret x__2a) fun a0 => bnd (bnd (ret y1.2) fun x => lift (asNums x)) fun a1 => lift (t__law_top a0 a1)) fun x => bnd (bnd (bnd (bnd (ret (0 : Int)) fun x => ret (Item.num x)) fun x => bnd (ret []) fun ys => ret (x :: ys)) fun xs => lift (fitT xs)) fun y => ret (x, y)) fun a0 => lift (t__law_key a0)) fun y => ret ((fun x y => (ltP (lt3 ltI ltI ltI) (ltL (lt3 ltI ltI ltB))) x y) x y))))
 else
  (bnd (bnd (bnd (ret y1.2) fun x => lift (asVer x)) fun a0 => lift (t__law_key a0)) fun y3 =>
  (bnd (bnd (ret y1.1) fun x => bnd (bnd (bnd (ret x__5e) fun x => bnd (bnd (ret x__7e) fun x => bnd (ret []) fun ys => ret (x :: ys)) fun ys => ret (x :: ys)) fun xs => lift (fitT xs)) fun y => ret ((fun x y => memT x y) x y)) fun c => if c then
   (bnd (ret y3) fun x => bnd (ret y2) fun y => if (fun x y => !(ltP (lt3 ltI ltI ltI) (ltL (lt3 ltI ltI ltB))) y x) x y then bnd (bnd (bnd (bnd (ret y1.1) fun a0 => bnd (bnd (bnd (bnd (ret y1.2) fun x => lift (asVer x)) fun x => ret ((fun x => x.1) x)) fun x => ret (numL x)) fun a1 => lift (t__law_top a0 a1)) fun x => bnd (bnd (bnd (bnd (ret (0 : Int)) fun x => ret (Item.num x)) fun x => bnd (ret []) fun ys => ret (x :: ys)) fun xs => lift (fitT xs)) fun y => ret (x, y)) fun a0 => lift (t__law_key a0)) fun z => ret ((fun x y => (ltP (lt3 ltI ltI ltI) (ltL (lt3 ltI ltI ltB))) x y) y z) else ret false)
  else
   (bnd (bnd (bnd (bnd (ret y2) fun x => bnd (ret y3) fun y => ret ((fun x y => (ltP (lt3 ltI ltI ltI) (ltL (lt3 ltI ltI ltB))) x y) x y)) fun x => bnd (bnd (bnd (ret y2) fun x => bnd (ret y3) fun y => ret ((fun x y => !(ltP (lt3 ltI ltI ltI) (ltL (lt3 ltI ltI ltB))) y x) x y)) fun x => bnd (bnd (bnd (ret y2) fun x => bnd (ret y3) fun y => ret ((fun x y => decide (x = y)) x y)) fun x => bnd (bnd (bnd (ret y2) fun x => bnd (ret y3) fun y => ret ((fun x y => (ltP (lt3 ltI ltI ltI) (ltL (lt3 ltI ltI ltB))) y x) x y)) fun x => bnd (bnd (bnd (ret y2) fun x => bnd (ret y3) fun y => ret ((fun x y => !(ltP (lt3 ltI ltI ltI) (ltL (lt3 ltI ltI ltB))) x y) x y)) fun x => bnd (ret []) fun ys => ret (x :: ys)) fun ys => ret (x :: ys)) fun ys => ret (x :: ys)) fun ys => ret (x :: ys)) fun ys => ret (x :: ys)) fun xs => ret (List.zip [x__3c, x__3c_3d, x__3d, x__3e, x__3e_3d] xs)) fun y4 =>
   (bnd (ret y4) fun x => bnd (ret y1.1) fun y => lift (dcT x y)))))))))
theorem w__law_concerns {P : Str → Option Def} {Γ : Str → Option D} (H : H__law_concerns P Γ) (n : Nat) (v_part : (Tx × Own)) (v_version : ((Int × Int × Int) × (List Item))) : Fv (callD P Γ (n + 3)) "_law_concerns" [(eP eS eOwn) v_part, (eP (e3 eI eI eI) (eT eIt)) v_version] (wv eB) (t__law_concerns v_part v_version) := by
 refine Fv.mk H.1 ⟨rfl, by decide⟩ ?_
 refine Ex.unp (ea := (eP eS eOwn)) (Sv.f (Sv.var (x := v_part) (ea := (eP eS eOwn)) rfl)) (fun _ => rfl) fun y1 => ?_
 refine Ex.set (ea := (eP (e3 eI eI eI) (eL (e3 eI eI eS)))) (Sv.f (Sv.call1 (ed := (eP (e3 eI eI eI) (eL (e3 eI eI eS)))) (fun a0 => w__law_key H.2.1 (n + 0) a0) (Sv.f (Sv.var (x := v_version) (ea := (eP (e3 eI eI eI) (eT eIt))) rfl)))) fun y2 => ?_
 refine Ex.ite (Sv.cmp (g := (fun x y => decide (x = y))) (cmp_eq (e := eS) (by decide)) (Sv.k (Sv.var (x := y1.1) (ea := eS) rfl)) (Sv.k (Sv.cst (x := x__2a) (ea := eS) rfl))) ?_ ?_
 · skip
   refine Ex.ite (Sv.cmp (g := (fun x y => (ltP (lt3 ltI ltI ltI) (ltL (lt3 ltI ltI ltB))) x y)) (cmp_lt (e := (eP (e3 eI eI eI) (eL (e3 eI eI eS)))) (by decide)) (Sv.k (Sv.var (x := y2) (ea := (eP (e3 eI eI eI) (eL (e3 eI eI eS)))) rfl)) (Sv.k (Sv.call1 (ed := (eP (e3 eI eI eI) (eL (e3 eI eI eS)))) (fun a0 => w__law_key H.2.1 (n + 0) a0) (Sv.f (Sv.tup2 (ea := (e3 eI eI eI)) (eb := (eT eIt)) (Sv.f (Sv.cast (eb := (e3 eI eI eI)) (g := asNum) (Sv.slt (slt_T (e := eI)) (Sv.k (Sv.op (op_addT (e := eI)) (Sv.k (Sv.cast (eb := (eT eI)) (g := asNums) (Sv.var (x := y1.2) (ea := eOwn) rfl) own_nums)) (Sv.k (Sv.tupL (As.cons (ea := eI) (Sv.f (Sv.cst (x := (0 : Int)) (ea := eI) rfl)) (As.cons (ea := eI) (Sv.f (Sv.cst (x := (0 : Int)) (ea := eI) rfl)) (As.cons (ea := eI) (Sv.f (Sv.cst (x := (0 : Int)) (ea := eI) rfl)) As.nil))))))) (Sv.k (Sv.cst (x := (3 : Int)) (ea := eI) rfl))) asNum_ok)) (Sv.f (Sv.tupL As.nil))))))) ?_ ?_
   · skip
     exact Ex.ret0 (ea := eB) (Sv.cst (x := false) (ea := eB) rfl) (fun _ => rfl)
   · skip
     exact Ex.ret0 (ea := eB) (Sv.or (Sv.cmp (g := (fun x y => decide (x = y))) (cmp_eq (e := (eT eI)) (by decide)) (Sv.k (Sv.cast (eb := (eT eI)) (g := asNums) (Sv.var (x := y1.2) (ea := eOwn) rfl) own_nums)) (Sv.k (Sv.tupL As.nil))) (Sv.cmp (g := (fun x y => (ltP (lt3 ltI ltI ltI) (ltL (lt3 ltI ltI ltB))) x y)) (cmp_lt (e := (eP (e3 eI eI eI) (eL (e3 eI eI eS)))) (by decide)) (Sv.k (Sv.var (x := y2) (ea := (eP (e3 eI eI eI) (eL (e3 eI eI eS)))) rfl)) (Sv.k (Sv.call1 (ed := (eP (e3 eI eI eI) (eL (e3 eI eI eS)))) (fun a0 => w__law_key H.2.1 (n + 0) a0) (Sv.f (Sv.tup2 (ea := (e3 eI eI eI)) (eb := (eT eIt)) (Sv.f (Sv.call2 (ed := (e3 eI eI eI)) (fun a0 a1 => w__law_top H.2.2 (n + 0) a0 a1) (Sv.f (Sv.cst (x := x__2a) (ea := eS) rfl)) (Sv.f (Sv.cast (eb := (eT eI)) (g := asNums) (Sv.var (x := y1.2) (ea := eOwn) rfl) own_nums)))) (Sv.f (Sv.tupL (As.cons (ea := eIt) (Sv.f (Sv.up (eb := eIt) (g := Item.num) (Sv.cst (x := (0 : Int)) (ea := eI) rfl) (fun _ => rfl))) As.nil))))))))) (fun _ => rfl)
 · skip
   refine Ex.set (ea := (eP (e3 eI eI eI) (eL (e3 eI eI eS)))) (Sv.f (Sv.call1 (ed := (eP (e3 eI eI eI) (eL (e3 eI eI eS)))) (fun a0 => w__law_key H.2.1 (n + 0) a0) (Sv.f (Sv.cast (eb := (eP (e3 eI eI eI) (eT eIt))) (g := asVer) (Sv.var (x := y1.2) (ea := eOwn) rfl) own_ver)))) fun y3 => ?_
   refine Ex.ite (Sv.cmp (g := (fun x y => memT x y)) (cm_inT (e := eS) (fun _ _ h => nomatch h) (by decide)) (Sv.k (Sv.var (x := y1.1) (ea := eS) rfl)) (Sv.k (Sv.tupL (As.cons (ea := eS) (Sv.f (Sv.cst (x := x__5e) (ea := eS) rfl)) (As.cons (ea := eS) (Sv.f (Sv.cst (x := x__7e) (ea := eS) rfl)) As.nil))))) ?_ ?_
   · skip
     exact Ex.ret0 (ea := eB) (Sv.cmp2 (g := (fun x y => !(ltP (lt3 ltI ltI ltI) (ltL (lt3 ltI ltI ltB))) y x)) (g' := (fun x y => (ltP (lt3 ltI ltI ltI) (ltL (lt3 ltI ltI ltB))) x y)) (cmp_le (e := (eP (e3 eI eI eI) (eL (e3 eI eI eS)))) (by decide)) (cmp_lt (e := (eP (e3 eI eI eI) (eL (e3 eI eI eS)))) (by decide)) (Sv.k (Sv.var (x := y3) (ea := (eP (e3 eI eI eI) (eL (e3 eI eI eS)))) rfl)) (Sv.k (Sv.var (x := y2) (ea := (eP (e3 eI eI eI) (eL (e3 eI eI eS)))) rfl)) (Sv.k (Sv.call1 (ed := (eP (e3 eI eI eI) (eL (e3 eI eI eS)))) (fun a0 => w__law_key H.2.1 (n + 0) a0) (Sv.f (Sv.tup2 (ea := (e3 eI eI eI)) (eb := (eT eIt)) (Sv.f (Sv.call2 (ed := (e3 eI eI eI)) (fun a0 a1 => w__law_top H.2.2 (n + 0) a0 a1) (Sv.f (Sv.var (x := y1.1) (ea := eS) rfl)) (Sv.f (Sv.up (eb := (eT eI)) (g := numL) (Sv.fld (g := (fun x => x.1)) fld_p0 (Sv.k (Sv.cast (eb := (eP (e3 eI eI eI) (eT eIt))) (g := asVer) (Sv.var (x := y1.2) (ea := eOwn) rfl) own_ver))) (fun _ => rfl))))) (Sv.f (Sv.tupL (As.cons (ea := eIt) (Sv.f (Sv.up (eb := eIt) (g := Item.num) (Sv.cst (x := (0 : Int)) (ea := eI) rfl) (fun _ => rfl))) As.nil)))))))) (fun _ => rfl)
   · skip
     refine Ex.set (ea := (eDc eB)) (Sv.f (Sv.dct (ea := eB) (vs := [x__3c, x__3c_3d, x__3d, x__3e, x__3e_3d]) rfl (by decide) (LenM.cons (LenM.cons (LenM.cons (LenM.cons (LenM.cons LenM.nil))))) (As.cons (ea := eB) (Sv.f (Sv.cmp (g := (fun x y => (ltP (lt3 ltI ltI ltI) (ltL (lt3 ltI ltI ltB))) x y)) (cmp_lt (e := (eP (e3 eI eI eI) (eL (e3 eI eI eS)))) (by decide)) (Sv.k (Sv.var (x := y2) (ea := (eP (e3 eI eI eI) (eL (e3 eI eI eS)))) rfl)) (Sv.k (Sv.var (x := y3) (ea := (eP (e3 eI eI eI) (eL (e3 eI eI eS)))) rfl)))) (As.cons (ea := eB) (Sv.f (Sv.cmp (g := (fun x y => !(ltP (lt3 ltI ltI ltI) (ltL (lt3 ltI ltI ltB))) y x)) (cmp_le (e := (eP (e3 eI eI eI) (eL (e3 eI eI eS)))) (by decide)) (Sv.k (Sv.var (x := y2) (ea := (eP (e3 eI eI eI) (eL (e3 eI eI eS)))) rfl)) (Sv.k (Sv.var (x := y3) (ea := (eP (e3 eI eI eI) (eL (e3 eI eI eS)))) rfl)))) (As.cons (ea := eB) (Sv.f (Sv.cmp (g := (fun x y => decide (x = y))) (cmp_eq (e := (eP (e3 eI eI eI) (eL (e3 eI eI eS)))) (by decide)) (Sv.k (Sv.var (x := y2) (ea := (eP (e3 eI eI eI) (eL (e3 eI eI eS)))) rfl)) (Sv.k (Sv.var (x := y3) (ea := (eP (e3 eI eI eI) (eL (e3 eI eI eS)))) rfl)))) (As.cons (ea := eB) (Sv.f (Sv.cmp (g := (fun x y => (ltP (lt3 ltI ltI ltI) (ltL (lt3 ltI ltI ltB))) y x)) (cmp_gt (e := (eP (e3 eI eI eI) (eL (e3 eI eI eS)))) (by decide)) (Sv.k (Sv.var (x := y2) (ea := (eP (e3 eI eI eI) (eL (e3 eI eI eS)))) rfl)) (Sv.k (Sv.var (x := y3) (ea := (eP (e3 eI eI eI) (eL (e3 eI eI eS)))) rfl)))) (As.cons (ea := eB) (Sv.f (Sv.cmp (g := (fun x y => !(ltP (lt3 ltI ltI ltI) (ltL (lt3 ltI ltI ltB))) x y)) (cmp_ge (e := (eP (e3 eI eI eI) (eL (e3 eI eI eS)))) (by decide)) (Sv.k (Sv.var (x := y2) (ea := (eP (e3 eI eI eI) (eL (e3 eI eI eS)))) rfl)) (Sv.k (Sv.var (x := y3) (ea := (eP (e3 eI eI eI) (eL (e3 eI eI eS)))) rfl)))) As.nil))))))) fun y4 => ?_
     exact Ex.ret0 (ea := eB) (Sv.sub (sub_dc (e := eB)) (Sv.k (Sv.var (x := y4) (ea := (eDc eB)) rfl)) (Sv.k (Sv.var (x := y1.1) (ea := eS) rfl))) (fun _ => rfl)
def s__law_allowed_1 : S := .ite (.or (.cmp .eq (.var 2) (.cst (.str "plain"))) (.or (.cmp .eq (.sub (.var 1) (.cst (.int 1))) (.tup .nil)) (.cmp .ne (.var 4) (.lst .nil))))
 (.cons (.ret (.cst (.bool true)))
 .nil)
 .nil
def s__law_allowed_2 : S := .ite (.cmp .eq (.comp (.name 5) (.ex (.var 3)) (.not (.call "_law_concerns" (.cons (.var 5) (.cons (.var 1) .nil)))) (.elt (.var 5))) (.lst .nil))
 (.cons (.set 4 (.comp (.name 5) (.ex (.var 3)) (.and (.cmp .ne (.sub (.var 5) (.cst (.int 0))) (.cst (.str "*"))) (.and (.cmp .ne (.sub (.sub (.var 5) (.cst (.int 1))) (.cst (.int 1))) (.tup .nil)) (.cmp .eq (.sub (.sub (.var 5) (.cst (.int 1))) (.cst (.int 0))) (.sub (.var 1) (.cst (.int 0)))))) (.elt (.var 5))))
 (.cons s__law_allowed_1
 .nil))
 .nil
def s__law_allowed_3 : S := .for_ (.name 3) (.ex (.var 0))
 (.cons s__law_allowed_2
 .nil)
def d__law_allowed : Def := ⟨3, false, 6,
 (.cons s__law_allowed_3
 (.cons (.ret (.cst (.bool false)))
 .nil))⟩
abbrev H__law_allowed (P : Str → Option Def) (Γ : Str → Option D) : Prop := P "_law_allowed" = some d__law_allowed ∧ H__law_concerns P Γ
def t__law_allowed (v_spans : (List (List (Tx × Own)))) (v_version : ((Int × Int × Int) × (List Item))) (v_rule : Tx) : Option Bool := run (
 (bnd (ret v_spans) fun xs => bnd (forT (fun (s1 : Unit) x2 =>
   (bnd (bnd (bnd (ret x2) fun xs => filT (fun x5 => (bnd (bnd (ret x5) fun a0 => bnd (ret v_version) fun a1 => lift (t__law_concerns a0 a1)) fun x => ret (!x))) (fun x5 => (ret x5)) xs) fun x => bnd (bnd (ret []) fun xs => lift (fitT xs)) fun y => ret ((fun x y => decide (x = y)) x y)) fun c => if c then
    (bnd (bnd (ret x2) fun xs => filT (fun x7 => (bnd (bnd (bnd (ret x7) fun x => ret ((fun x => x.1) x)) fun x => bnd (ret x__2a) fun y => ret ((fun x y => !decide (x = y)) x y)) fun c => if c then (bnd (bnd (bnd (bnd (bnd (ret x7) fun x => ret ((fun x => x.2) x)) fun x => lift (asVer x)) fun x => ret ((fun x => x.2) x)) fun x => bnd (bnd (ret []) fun xs => lift (fitT xs)) fun y => ret ((fun x y => !decide (x = y)) x y)) fun c => if c then (bnd (bnd (bnd (bnd (ret x7) fun x => ret ((fun x => x.2) x)) fun x => lift (asVer x)) fun x => ret ((fun x => x.1) x)) fun x => bnd (bnd (ret v_version) fun x => ret ((fun x => x.1) x)) fun y => ret ((fun x y => decide (x = y)) x y)) else ret false) else ret false)) (fun x7 => (ret x7)) xs) fun y6 =>
    (bnd (bnd (bnd (ret v_rule) fun x => bnd (ret x_plain) fun y => ret ((fun x y => decide (x = y)) x y)) fun c => if c then ret true else (bnd (bnd (bnd (ret v_version) fun x => ret ((fun x => x.2) x)) fun x => bnd (bnd (ret []) fun xs => lift (fitT xs)) fun y => ret ((fun x y => decide (x = y)) x y)) fun c => if c then ret true else (bnd (ret y6) fun x => bnd (bnd (ret []) fun xs => lift (fitT xs)) fun y => ret ((fun x y => !decide (x = y)) x y)))) fun c => if c then
     (bnd (ret true) fun x => ret (Sum.inl (x)))
    else
     (ret (Sum.inr ()))))
   else
    (ret (Sum.inr ())))) xs ()) (outT fun s8 =>
 (ret false))))
theorem w__law_allowed {P : Str → Option Def} {Γ : Str → Option D} (H : H__law_allowed P Γ) (n : Nat) (v_spans : (List (List (Tx × Own)))) (v_version : ((Int × Int × Int) × (List Item))) (v_rule : Tx) : Fv (callD P Γ (n + 4)) "_law_allowed" [(eT (eT (eP eS eOwn))) v_spans, (eP (e3 eI eI eI) (eT eIt)) v_version, eS v_rule] (wv eB) (t__law_allowed v_spans v_version v_rule) := by
 refine Fv.mk H.1 ⟨rfl, by decide⟩ ?_
 refine Ex.for1 (σ := Unit) (fun (s : Unit) (ρ : Env) => ∃ g3 g4 : Option R, ρ = [some (.val ((eT (eT (eP eS eOwn))) v_spans)), some (.val ((eP (e3 eI eI eI) (eT eIt)) v_version)), some (.val (eS v_rule)), g3, g4, none]) (ea := (eT (eP eS eOwn))) (It.exT (ea := (eT (eP eS eOwn))) (Sv.f (Sv.var (x := v_spans) (ea := (eT (eT (eP eS eOwn)))) rfl))) ⟨_, _, rfl⟩ (fun s1 x2 ρ' hJ => ?_) (fun s8 ρ' hJ => ?_)
 · obtain ⟨g3, g4, rfl⟩ := hJ
   refine ⟨_, rfl, ?_⟩
   refine Ex.ite (Sv.cmp (g := (fun x y => decide (x = y))) (cmp_eq (e := (eL (eP eS eOwn))) (by decide)) (So.k (So.fil (ea := (eP eS eOwn)) (eb := (eP eS eOwn)) (It.exT (ea := (eP eS eOwn)) (Sv.f (Sv.var (x := x2) (ea := (eT (eP eS eOwn))) rfl))) fun x5 => ⟨_, rfl, (Sv.not (Sv.call2 (ed := eB) (fun a0 a1 => w__law_concerns H.2 (n + 0) a0 a1) (Sv.f (Sv.var (x := x5) (ea := (eP eS eOwn)) rfl)) (Sv.f (Sv.var (x := v_version) (ea := (eP (e3 eI eI eI) (eT eIt))) rfl)))), (Sv.f (Sv.var (x := x5) (ea := (eP eS eOwn)) rfl))⟩)) (So.k (So.lst As.nil))) ?_ ?_
   · skip
     refine Ex.set (ea := (eL (eP eS eOwn))) (So.f (So.fil (ea := (eP eS eOwn)) (eb := (eP eS eOwn)) (It.exT (ea := (eP eS eOwn)) (Sv.f (Sv.var (x := x2) (ea := (eT (eP eS eOwn))) rfl))) fun x7 => ⟨_, rfl, (Sv.and (Sv.cmp (g := (fun x y => !decide (x = y))) (cmp_ne (e := eS) (by decide)) (Sv.k (Sv.fld (g := (fun x => x.1)) fld_p0 (Sv.k (Sv.var (x := x7) (ea := (eP eS eOwn)) rfl)))) (Sv.k (Sv.cst (x := x__2a) (ea := eS) rfl))) (Sv.and (Sv.cmp (g := (fun x y => !decide (x = y))) (cmp_ne (e := (eT eIt)) (by decide)) (Sv.k (Sv.fld (g := (fun x => x.2)) fld_p1 (Sv.k (Sv.cast (eb := (eP (e3 eI eI eI) (eT eIt))) (g := asVer) (Sv.fld (g := (fun x => x.2)) fld_p1 (Sv.k (Sv.var (x := x7) (ea := (eP eS eOwn)) rfl))) own_ver)))) (Sv.k (Sv.tupL As.nil))) (Sv.cmp (g := (fun x y => decide (x = y))) (cmp_eq (e := (e3 eI eI eI)) (by decide)) (Sv.k (Sv.fld (g := (fun x => x.1)) fld_p0 (Sv.k (Sv.cast (eb := (eP (e3 eI eI eI) (eT eIt))) (g := asVer) (Sv.fld (g := (fun x => x.2)) fld_p1 (Sv.k (Sv.var (x := x7) (ea := (eP eS eOwn)) rfl))) own_ver)))) (Sv.k (Sv.fld (g := (fun x => x.1)) fld_p0 (Sv.k (Sv.var (x := v_version) (ea := (eP (e3 eI eI eI) (eT eIt))) rfl))))))), (Sv.f (Sv.var (x := x7) (ea := (eP eS eOwn)) rfl))⟩)) fun y6 => ?_
     refine Ex.ite (Sv.or (Sv.cmp (g := (fun x y => decide (x = y))) (cmp_eq (e := eS) (by decide)) (Sv.k (Sv.var (x := v_rule) (ea := eS) rfl)) (Sv.k (Sv.cst (x := x_plain) (ea := eS) rfl))) (Sv.or (Sv.cmp (g := (fun x y => decide (x = y))) (cmp_eq (e := (eT eIt)) (by decide)) (Sv.k (Sv.fld (g := (fun x => x.2)) fld_p1 (Sv.k (Sv.var (x := v_version) (ea := (eP (e3 eI eI eI) (eT eIt))) rfl)))) (Sv.k (Sv.tupL As.nil))) (Sv.cmp (g := (fun x y => !decide (x = y))) (cmp_ne (e := (eL (eP eS eOwn))) (by decide)) (Sv.k (Sv.var (x := y6) (ea := (eL (eP eS eOwn))) rfl)) (So.k (So.lst As.nil))))) ?_ ?_
     · skip
       exact Ex.ret (ea := eB) (g := fun x => Sum.inl (x)) (Sv.cst (x := true) (ea := eB) rfl) (fun _ => ⟨(fun h => (nomatch h)), rfl⟩)
     · skip
       exact Ex.nil (s := Sum.inr ()) ⟨rfl, ⟨_, _, rfl⟩⟩
   · skip
     exact Ex.nil (s := Sum.inr ()) ⟨rfl, ⟨_, _, rfl⟩⟩
 · obtain ⟨g3, g4, rfl⟩ := hJ
   exact Ex.ret0 (ea := eB) (Sv.cst (x := false) (ea := eB) rfl) (fun _ => rfl)
def s__law_marks_1 : S := .for_ (.name 8) (.ex (.var 7))
 (.cons (.setO 1 (.bin .add (.var 1) (.lst (.cons (.tup (.cons (.var 8) (.cons (.tup (.cons (.cst (.int 0)) .nil)) .nil))) (.cons (.tup (.cons (.var 8) (.cons (.tup .nil) .nil))) (.cons (.call "_law_next" (.cons (.tup (.cons (.var 8) (.cons (.tup .nil) .nil))) .nil)) .nil))))))
 .nil)
def s__law_marks_2 : S := .for_ (.tup [3, 4]) (.ex (.var 2))
 (.cons (.set 5 (.ite (.cmp .eq (.var 3) (.cst (.str "*"))) (.tup (.cons (.slt (.bin .add (.var 4) (.tup (.cons (.cst (.int 0)) (.cons (.cst (.int 0)) (.cons (.cst (.int 0)) .nil))))) (.cst (.int 3))) (.cons (.tup .nil) .nil))) (.var 4)))
 (.cons (.set 6 (.sub (.var 5) (.cst (.int 0))))
 (.cons (.set 7 (.lst (.cons (.var 6) (.cons (.call "_law_more" (.cons (.var 6) .nil)) (.cons (.tup (.cons (.sub (.var 6) (.cst (.int 0))) (.cons (.bin .add (.sub (.var 6) (.cst (.int 1))) (.cst (.int 1))) (.cons (.cst (.int 0)) .nil)))) (.cons (.tup (.cons (.bin .add (.sub (.var 6) (.cst (.int 0))) (.cst (.int 1))) (.cons (.cst (.int 0)) (.cons (.cst (.int 0)) .nil)))) .nil))))))
 (.cons (.setO 1 (.bin .add (.var 1) (.lst (.cons (.var 5) (.cons (.call "_law_next" (.cons (.var 5) .nil)) .nil)))))
 (.cons s__law_marks_1
 .nil)))))
def s__law_marks_3 : S := .for_ (.name 2) (.ex (.var 0))
 (.cons s__law_marks_2
 .nil)
def d__law_marks : Def := ⟨1, false, 9,
 (.cons (.setO 1 (.lst (.cons (.tup (.cons (.tup (.cons (.cst (.int 0)) (.cons (.cst (.int 0)) (.cons (.cst (.int 0)) .nil)))) (.cons (.tup (.cons (.cst (.int 0)) .nil)) .nil))) (.cons (.tup (.cons (.tup (.cons (.cst (.int 0)) (.cons (.cst (.int 0)) (.cons (.cst (.int 0)) .nil)))) (.cons (.tup .nil) .nil))) (.cons (.tup (.cons (.tup (.cons (.cst (.int 0)) (.cons (.cst (.int 0)) (.cons (.cst (.int 1)) .nil)))) (.cons (.tup (.cons (.cst (.int 0)) .nil)) .nil))) .nil)))))
 (.cons s__law_marks_3
 (.cons (.ret (.var 1))
 .nil)))⟩
abbrev H__law_marks (P : Str → Option Def) (Γ : Str → Option D) : Prop := P "_law_marks" = some d__law_marks ∧ H__law_more P Γ ∧ H__law_next P Γ
def t__law_marks (v_spans : (List (List (Tx × Own)))) : Option (List ((Int × Int × Int) × (List Item))) := run (
 (bnd (bnd (bnd (bnd (bnd (ret (0 : Int)) fun x => bnd (ret (0 : Int)) fun y => bnd (ret (0 : Int)) fun z => ret (x, y, z)) fun x => bnd (bnd (bnd (bnd (ret (0 : Int)) fun x => ret (Item.num x)) fun x => bnd (ret []) fun ys => ret (x :: ys)) fun xs => lift (fitT xs)) fun y => ret (x, y)) fun x => bnd (bnd (bnd (bnd (ret (0 : Int)) fun x => bnd (ret (0 : Int)) fun y => bnd (ret (0 : Int)) fun z => ret (x, y, z)) fun x => bnd (bnd (ret []) fun xs => lift (fitT xs)) fun y => ret (x, y)) fun x => bnd (bnd (bnd (bnd (ret (0 : Int)) fun x => bnd (ret (0 : Int)) fun y => bnd (ret (1 : Int)) fun z => ret (x, y, z)) fun x => bnd (bnd (bnd (bnd (ret (0 : Int)) fun x => ret (Item.num x)) fun x => bnd (ret []) fun ys => ret (x :: ys)) fun xs => lift (fitT xs)) fun y => ret (x, y)) fun x => bnd (ret []) fun ys => ret (x :: ys)) fun ys => ret (x :: ys)) fun ys => ret (x :: ys)) fun xs => lift (fitT xs)) fun y1 =>
 (bnd (ret v_spans) fun xs => bnd (foldT (fun (s2 : (List ((Int × Int × Int) × (List Item)))) x3 =>
   (bnd (ret x3) fun xs => bnd (foldT (fun (s11 : (List ((Int × Int × Int) × (List Item)))) x12 =>
     (bnd (bnd (bnd (ret x12.1) fun x => bnd (ret x__2a) fun y => ret ((fun x y => decide (x = y)) x y)) fun c => if c then (bnd (bnd (bnd (bnd (bnd (ret x12.2) fun x => lift (asNums x)) fun x => bnd (bnd (bnd (ret (0 : Int)) fun x => bnd (bnd (ret (0 : Int)) fun x => bnd (bnd (ret (0 : Int)) fun x => bnd (ret []) fun ys => ret (x :: ys)) fun ys => ret (x :: ys)) fun ys => ret (x :: ys)) fun xs => lift (fitT xs)) fun y => lift (catT x y)) fun x => bnd (ret (3 : Int)) fun y => ret (cutT x y)) fun x => lift (asNum x)) fun x => bnd (bnd (ret []) fun xs => lift (fitT xs)) fun y => ret (x, y)) else (bnd (ret x12.2) fun x => lift (asVer x))) fun y19 =>
     (bnd (bnd (ret y19) fun x => ret ((fun x => x.1) x)) fun y20 =>
     (bnd (bnd (bnd (ret y20) fun x => bnd (bnd (bnd (ret y20) fun a0 => lift (t__law_more a0)) fun x => bnd (bnd (bnd (bnd (ret y20) fun x => ret ((fun x => x.1) x)) fun x => bnd (bnd (bnd (ret y20) fun x => ret ((fun x => x.2.1) x)) fun x => bnd (ret (1 : Int)) fun y => ret (x + y)) fun y => bnd (ret (0 : Int)) fun z => ret (x, y, z)) fun x => bnd (bnd (bnd (bnd (bnd (ret y20) fun x => ret ((fun x => x.1) x)) fun x => bnd (ret (1 : Int)) fun y => ret (x + y)) fun x => bnd (ret (0 : Int)) fun y => bnd (ret (0 : Int)) fun z => ret (x, y, z)) fun x => bnd (ret []) fun ys => ret (x :: ys)) fun ys => ret (x :: ys)) fun ys => ret (x :: ys)) fun ys => ret (x :: ys)) fun xs => lift (fitT xs)) fun y21 =>
     (bnd (bnd (ret s11) fun x => bnd (bnd (bnd (ret y19) fun x => bnd (bnd (bnd (ret y19) fun a0 => lift (t__law_next a0)) fun x => bnd (ret []) fun ys => ret (x :: ys)) fun ys => ret (x :: ys)) fun xs => lift (fitT xs)) fun y => lift (catT x y)) fun y22 =>
     (bnd (ret y21) fun xs => bnd (foldT (fun (s23 : (List ((Int × Int × Int) × (List Item)))) x24 =>
       (bnd (bnd (ret s23) fun x => bnd (bnd (bnd (bnd (ret x24) fun x => bnd (bnd (bnd (bnd (ret (0 : Int)) fun x => ret (Item.num x)) fun x => bnd (ret []) fun ys => ret (x :: ys)) fun xs => lift (fitT xs)) fun y => ret (x, y)) fun x => bnd (bnd (bnd (ret x24) fun x => bnd (bnd (ret []) fun xs => lift (fitT xs)) fun y => ret (x, y)) fun x => bnd (bnd (bnd (bnd (ret x24) fun x => bnd (bnd (ret []) fun xs => lift (fitT xs)) fun y => ret (x, y)) fun a0 => lift (t__law_next a0)) fun x => bnd (ret []) fun ys => ret (x :: ys)) fun ys => ret (x :: ys)) fun ys => ret (x :: ys)) fun xs => lift (fitT xs)) fun y => lift (catT x y)) fun y26 =>
       (ret y26))) xs y22) (fun s27 =>
     (ret s27)))))))) xs s2) (fun s28 =>
   (ret s28)))) xs y1) (fun s29 =>
 (ret (s29))))))
theorem w__law_marks {P : Str → Option Def} {Γ : Str → Option D} (H : H__law_marks P Γ) (n : Nat) (v_spans : (List (List (Tx × Own)))) : Fv (callD P Γ (n + 3)) "_law_marks" [(eT (eT (eP eS eOwn))) v_spans] (wo (eP (e3 eI eI eI) (eT eIt))) (t__law_marks v_spans) := by
 refine Fv.mk H.1 ⟨rfl, by decide⟩ ?_
 refine Ex.setO (ea := (eP (e3 eI eI eI) (eT eIt))) (So.lst (As.cons (ea := (eP (e3 eI eI eI) (eT eIt))) (Sv.f (Sv.tup2 (ea := (e3 eI eI eI)) (eb := (eT eIt)) (Sv.f (Sv.tup3 (ea := eI) (eb := eI) (ec := eI) (Sv.f (Sv.cst (x := (0 : Int)) (ea := eI) rfl)) (Sv.f (Sv.cst (x := (0 : Int)) (ea := eI) rfl)) (Sv.f (Sv.cst (x := (0 : Int)) (ea := eI) rfl)))) (Sv.f (Sv.tupL (As.cons (ea := eIt) (Sv.f (Sv.up (eb := eIt) (g := Item.num) (Sv.cst (x := (0 : Int)) (ea := eI) rfl) (fun _ => rfl))) As.nil))))) (As.cons (ea := (eP (e3 eI eI eI) (eT eIt))) (Sv.f (Sv.tup2 (ea := (e3 eI eI eI)) (eb := (eT eIt)) (Sv.f (Sv.tup3 (ea := eI) (eb := eI) (ec := eI) (Sv.f (Sv.cst (x := (0 : Int)) (ea := eI) rfl)) (Sv.f (Sv.cst (x := (0 : Int)) (ea := eI) rfl)) (Sv.f (Sv.cst (x := (0 : Int)) (ea := eI) rfl)))) (Sv.f (Sv.tupL As.nil)))) (As.cons (ea := (eP (e3 eI eI eI) (eT eIt))) (Sv.f (Sv.tup2 (ea := (e3 eI eI eI)) (eb := (eT eIt)) (Sv.f (Sv.tup3 (ea := eI) (eb := eI) (ec := eI) (Sv.f (Sv.cst (x := (0 : Int)) (ea := eI) rfl)) (Sv.f (Sv.cst (x := (0 : Int)) (ea := eI) rfl)) (Sv.f (Sv.cst (x := (1 : Int)) (ea := eI) rfl)))) (Sv.f (Sv.tupL (As.cons (ea := eIt) (Sv.f (Sv.up (eb := eIt) (g := Item.num) (Sv.cst (x := (0 : Int)) (ea := eI) rfl) (fun _ => rfl))) As.nil))))) As.nil)))) fun y1 => ?_
 refine Ex.for0 (σ := (List ((Int × Int × Int) × (List Item)))) (fun (s : (List ((Int × Int × Int) × (List Item)))) (ρ : Env) => ∃ g4 g5 g6 g7 g8 g9 g10 : Option R, ρ = [some (.val ((eT (eT (eP eS eOwn))) v_spans)), some (.own (List.map (eP (e3 eI eI eI) (eT eIt)) s)), g4, g5, g6, g7, g8, g9, g10]) (ea := (eT (eP eS eOwn))) (It.exT (ea := (eT (eP eS eOwn))) (Sv.f (Sv.var (x := v_spans) (ea := (eT (eT (eP eS eOwn)))) rfl))) ⟨_, _, _, _, _, _, _, rfl⟩ (fun s2 x3 ρ' hJ => ?_) (fun s29 ρ' hJ => ?_)
 · obtain ⟨g4, g5, g6, g7, g8, g9, g10, rfl⟩ := hJ
   refine ⟨_, rfl, ?_⟩
   refine Ex.for0 (σ := (List ((Int × Int × Int) × (List Item)))) (fun (s : (List ((Int × Int × Int) × (List Item)))) (ρ : Env) => ∃ g13 g14 g15 g16 g17 g18 : Option R, ρ = [some (.val ((eT (eT (eP eS eOwn))) v_spans)), some (.own (List.map (eP (e3 eI eI eI) (eT eIt)) s)), some (.val ((eT (eP eS eOwn)) x3)), g13, g14, g15, g16, g17, g18]) (ea := (eP eS eOwn)) (It.exT (ea := (eP eS eOwn)) (Sv.f (Sv.var (x := x3) (ea := (eT (eP eS eOwn))) rfl))) ⟨_, _, _, _, _, _, rfl⟩ (fun s11 x12 ρ' hJ => ?_) (fun s28 ρ' hJ => ?_)
   · obtain ⟨g13, g14, g15, g16, g17, g18, rfl⟩ := hJ
     refine ⟨_, rfl, ?_⟩
     refine Ex.set (ea := (eP (e3 eI eI eI) (eT eIt))) (Sv.f (Sv.ite (Sv.cmp (g := (fun x y => decide (x = y))) (cmp_eq (e := eS) (by decide)) (Sv.k (Sv.var (x := x12.1) (ea := eS) rfl)) (Sv.k (Sv.cst (x := x__2a) (ea := eS) rfl))) (Sv.tup2 (ea := (e3 eI eI eI)) (eb := (eT eIt)) (Sv.f (Sv.cast (eb := (e3 eI eI eI)) (g := asNum) (Sv.slt (slt_T (e := eI)) (Sv.k (Sv.op (op_addT (e := eI)) (Sv.k (Sv.cast (eb := (eT eI)) (g := asNums) (Sv.var (x := x12.2) (ea := eOwn) rfl) own_nums)) (Sv.k (Sv.tupL (As.cons (ea := eI) (Sv.f (Sv.cst (x := (0 : Int)) (ea := eI) rfl)) (As.cons (ea := eI) (Sv.f (Sv.cst (x := (0 : Int)) (ea := eI) rfl)) (As.cons (ea := eI) (Sv.f (Sv.cst (x := (0 : Int)) (ea := eI) rfl)) As.nil))))))) (Sv.k (Sv.cst (x := (3 : Int)) (ea := eI) rfl))) asNum_ok)) (Sv.f (Sv.tupL As.nil))) (Sv.cast (eb := (eP (e3 eI eI eI) (eT eIt))) (g := asVer) (Sv.var (x := x12.2) (ea := eOwn) rfl) own_ver))) fun y19 => ?_
     refine Ex.set (ea := (e3 eI eI eI)) (Sv.f (Sv.fld (g := (fun x => x.1)) fld_p0 (Sv.k (Sv.var (x := y19) (ea := (eP (e3 eI eI eI) (eT eIt))) rfl)))) fun y20 => ?_
     refine Ex.set (ea := (eL (e3 eI eI eI))) (So.f (So.lst (As.cons (ea := (e3 eI eI eI)) (Sv.f (Sv.var (x := y20) (ea := (e3 eI eI eI)) rfl)) (As.cons (ea := (e3 eI eI eI)) (Sv.f (Sv.call1 (ed := (e3 eI eI eI)) (fun a0 => w__law_more H.2.1 (n + 1) a0) (Sv.f (Sv.var (x := y20) (ea := (e3 eI eI eI)) rfl)))) (As.cons (ea := (e3 eI eI eI)) (Sv.f (Sv.tup3 (ea := eI) (eb := eI) (ec := eI) (Sv.f (Sv.fld (g := (fun x => x.1)) fld_30 (Sv.k (Sv.var (x := y20) (ea := (e3 eI eI eI)) rfl)))) (Sv.f (Sv.opp op_addI (Sv.k (Sv.fld (g := (fun x => x.2.1)) fld_31 (Sv.k (Sv.var (x := y20) (ea := (e3 eI eI eI)) rfl)))) (Sv.k (Sv.cst (x := (1 : Int)) (ea := eI) rfl)))) (Sv.f (Sv.cst (x := (0 : Int)) (ea := eI) rfl)))) (As.cons (ea := (e3 eI eI eI)) (Sv.f (Sv.tup3 (ea := eI) (eb := eI) (ec := eI) (Sv.f (Sv.opp op_addI (Sv.k (Sv.fld (g := (fun x => x.1)) fld_30 (Sv.k (Sv.var (x := y20) (ea := (e3 eI eI eI)) rfl)))) (Sv.k (Sv.cst (x := (1 : Int)) (ea := eI) rfl)))) (Sv.f (Sv.cst (x := (0 : Int)) (ea := eI) rfl)) (Sv.f (Sv.cst (x := (0 : Int)) (ea := eI) rfl)))) As.nil)))))) fun y21 => ?_
     refine Ex.setO (ea := (eP (e3 eI eI eI) (eT eIt))) (So.op (ec := (eP (e3 eI eI eI) (eT eIt))) (op_addL (e := (eP (e3 eI eI eI) (eT eIt)))) (Sk.bor (xs := s11) (ea := (eP (e3 eI eI eI) (eT eIt))) rfl) (So.k (So.lst (As.cons (ea := (eP (e3 eI eI eI) (eT eIt))) (Sv.f (Sv.var (x := y19) (ea := (eP (e3 eI eI eI) (eT eIt))) rfl)) (As.cons (ea := (eP (e3 eI eI eI) (eT eIt))) (Sv.f (Sv.call1 (ed := (eP (e3 eI eI eI) (eT eIt))) (fun a0 => w__law_next H.2.2 (n + 0) a0) (Sv.f (Sv.var (x := y19) (ea := (eP (e3 eI eI eI) (eT eIt))) rfl)))) As.nil))))) fun y22 => ?_
     refine Ex.for0 (σ := (List ((Int × Int × Int) × (List Item)))) (fun (s : (List ((Int × Int × Int) × (List Item)))) (ρ : Env) => ∃ g25 : Option R, ρ = [some (.val ((eT (eT (eP eS eOwn))) v_spans)), some (.own (List.map (eP (e3 eI eI eI) (eT eIt)) s)), some (.val ((eT (eP eS eOwn)) x3)), some (.val (eS x12.1)), some (.val (eOwn x12.2)), some (.val ((eP (e3 eI eI eI) (eT eIt)) y19)), some (.val ((e3 eI eI eI) y20)), some (.val ((eL (e3 eI eI eI)) y21)), g25]) (ea := (e3 eI eI eI)) (It.exL (ea := (e3 eI eI eI)) (Sv.f (Sv.var (x := y21) (ea := (eL (e3 eI eI eI))) rfl))) ⟨_, rfl⟩ (fun s23 x24 ρ' hJ => ?_) (fun s27 ρ' hJ => ?_)
     · obtain ⟨g25, rfl⟩ := hJ
       refine ⟨_, rfl, ?_⟩
       refine Ex.setO (ea := (eP (e3 eI eI eI) (eT eIt))) (So.op (ec := (eP (e3 eI eI eI) (eT eIt))) (op_addL (e := (eP (e3 eI eI eI) (eT eIt)))) (Sk.bor (xs := s23) (ea := (eP (e3 eI eI eI) (eT eIt))) rfl) (So.k (So.lst (As.cons (ea := (eP (e3 eI eI eI) (eT eIt))) (Sv.f (Sv.tup2 (ea := (e3 eI eI eI)) (eb := (eT eIt)) (Sv.f (Sv.var (x := x24) (ea := (e3 eI eI eI)) rfl)) (Sv.f (Sv.tupL (As.cons (ea := eIt) (Sv.f (Sv.up (eb := eIt) (g := Item.num) (Sv.cst (x := (0 : Int)) (ea := eI) rfl) (fun _ => rfl))) As.nil))))) (As.cons (ea := (eP (e3 eI eI eI) (eT eIt))) (Sv.f (Sv.tup2 (ea := (e3 eI eI eI)) (eb := (eT eIt)) (Sv.f (Sv.var (x := x24) (ea := (e3 eI eI eI)) rfl)) (Sv.f (Sv.tupL As.nil)))) (As.cons (ea := (eP (e3 eI eI eI) (eT eIt))) (Sv.f (Sv.call1 (ed := (eP (e3 eI eI eI) (eT eIt))) (fun a0 => w__law_next H.2.2 (n + 0) a0) (Sv.f (Sv.tup2 (ea := (e3 eI eI eI)) (eb := (eT eIt)) (Sv.f (Sv.var (x := x24) (ea := (e3 eI eI eI)) rfl)) (Sv.f (Sv.tupL As.nil)))))) As.nil)))))) fun y26 => ?_
       exact Ex.nil (s := y26) ⟨rfl, ⟨_, rfl⟩⟩
     · obtain ⟨g25, rfl⟩ := hJ
       exact Ex.nil (s := s27) ⟨rfl, ⟨_, _, _, _, _, _, rfl⟩⟩
   · obtain ⟨g13, g14, g15, g16, g17, g18, rfl⟩ := hJ
     exact Ex.nil (s := s28) ⟨rfl, ⟨_, _, _, _, _, _, _, rfl⟩⟩
 · obtain ⟨g4, g5, g6, g7, g8, g9, g10, rfl⟩ := hJ
   exact Ex.retB (xs := s29) (ea := (eP (e3 eI eI eI) (eT eIt))) rfl rfl
end Ev

set_option Elab.async false
set_option linter.all false
set_option maxRecDepth 100000
set_option maxHeartbeats 1000000
namespace Ev
open PySem
def x_listed : Tx := ⟨"listed", by decide +kernel, by decide +kernel⟩
abbrev c_RULES : (List Tx) := [x_listed, x_plain]
def d__law_rule : Def := ⟨1, true, 1,
 (.cons (.ret (.sub (.lst (.cons (.cst (.str "listed")) (.cons (.cst (.str "plain")) .nil))) (.callT "_law_draw" (.cons (.cst (.int 2)) .nil))))
 .nil)⟩
abbrev H__law_rule (P : Str → Option Def) (Γ : Str → Option D) : Prop := P "_law_rule" = some d__law_rule ∧ H__law_draw P Γ
def t__law_rule  : M Tx :=
 (bnd (bnd (bnd (ret x_listed) fun x => bnd (bnd (ret x_plain) fun x => bnd (ret []) fun ys => ret (x :: ys)) fun ys => ret (x :: ys)) fun xs => lift (fitT xs)) fun x => bnd (needT (bnd (ret (2 : Int)) fun a0 => needT (t__law_draw a0))) fun y => lift (atT x y))
theorem w__law_rule {P : Str → Option Def} {Γ : Str → Option D} (H : H__law_rule P Γ) (n : Nat)  : Ft (callD P Γ (n + 2)) "_law_rule" [] (wv eS) (t__law_rule) := by
 refine Ft.mk H.1 ⟨rfl, by decide⟩ ?_
 exact Ex.ret0 (ea := eS) (Sv.sub (sub_atL (e := eS)) (So.k (So.lst (As.cons (ea := eS) (Sv.f (Sv.cst (x := x_listed) (ea := eS) rfl)) (As.cons (ea := eS) (Sv.f (Sv.cst (x := x_plain) (ea := eS) rfl)) As.nil)))) (Sv.k (Sv.callT1 (ed := eI) (fun a0 => w__law_draw H.2 (n + 0) a0) (Sv.f (Sv.cst (x := (2 : Int)) (ea := eI) rfl))))) (fun _ => rfl)
def d_explains : Def := ⟨3, false, 5,
 (.cons (.ret (.bi .all (.cons (.comp (.tup [3, 4]) (.ex (.var 2)) (.cst (.bool true)) (.elt (.cmp .eq (.call "allows" (.cons (.var 0) (.cons (.var 3) (.cons (.var 1) .nil)))) (.var 4)))) .nil)))
 .nil)⟩
abbrev H_explains (P : Str → Option Def) (Γ : Str → Option D) : Prop := P "explains" = some d_explains ∧ H_allows P Γ
def t_explains (v_spans : (List (List (Tx × Own)))) (v_rule : Tx) (v_seen : (List (((Int × Int × Int) × (List Item)) × Bool))) : Option Bool := run (
 (bnd (bnd (ret v_seen) fun xs => mapT (fun x1 => (bnd (bnd (ret v_spans) fun a0 => bnd (ret x1.1) fun a1 => bnd (ret v_rule) fun a2 => lift (t_allows a0 a1 a2)) fun x => bnd (ret x1.2) fun y => ret ((fun x y => decide (x = y)) x y))) xs) fun x => ret (x.all id)))
theorem w_explains {P : Str → Option Def} {Γ : Str → Option D} (H : H_explains P Γ) (n : Nat) (v_spans : (List (List (Tx × Own)))) (v_rule : Tx) (v_seen : (List (((Int × Int × Int) × (List Item)) × Bool))) : Fv (callD P Γ (n + 6)) "explains" [(eT (eT (eP eS eOwn))) v_spans, eS v_rule, (eT (eP (eP (e3 eI eI eI) (eT eIt)) eB)) v_seen] (wv eB) (t_explains v_spans v_rule v_seen) := by
 refine Fv.mk H.1 ⟨rfl, by decide⟩ ?_
 exact Ex.ret0 (ea := eB) (Sv.bi1p (ed := eB) (g := fun x => x.all id) bi_allL (So.k (So.comp (ea := (eP (eP (e3 eI eI eI) (eT eIt)) eB)) (eb := eB) (It.exT (ea := (eP (eP (e3 eI eI eI) (eT eIt)) eB)) (Sv.f (Sv.var (x := v_seen) (ea := (eT (eP (eP (e3 eI eI eI) (eT eIt)) eB))) rfl))) fun x1 => ⟨_, rfl, (Sv.f (Sv.cmp (g := (fun x y => decide (x = y))) (cmp_eq (e := eB) (by decide)) (Sv.k (Sv.call3 (ed := eB) (fun a0 a1 a2 => w_allows H.2 (n + 0) a0 a1 a2) (Sv.f (Sv.var (x := v_spans) (ea := (eT (eT (eP eS eOwn)))) rfl)) (Sv.f (Sv.var (x := x1.1) (ea := (eP (e3 eI eI eI) (eT eIt))) rfl)) (Sv.f (Sv.var (x := v_rule) (ea := eS) rfl)))) (Sv.k (Sv.var (x := x1.2) (ea := eB) rfl))))⟩))) (fun _ => rfl)
def d_fitting : Def := ⟨3, false, 5,
 (.cons (.ret (.comp (.tup [3, 4]) (.enum (.var 0)) (.call "explains" (.cons (.var 4) (.cons (.var 1) (.cons (.var 2) .nil)))) (.elt (.var 3))))
 .nil)⟩
abbrev H_fitting (P : Str → Option Def) (Γ : Str → Option D) : Prop := P "fitting" = some d_fitting ∧ H_explains P Γ
def t_fitting (v_ranges : (List (List (List (Tx × Own))))) (v_rule : Tx) (v_seen : (List (((Int × Int × Int) × (List Item)) × Bool))) : Option (List Int) := run (
 (bnd (bnd (bnd (ret v_ranges) fun x => ret (enumT 0 x)) fun xs => filT (fun x1 => (bnd (ret x1.2) fun a0 => bnd (ret v_rule) fun a1 => bnd (ret v_seen) fun a2 => lift (t_explains a0 a1 a2))) (fun x1 => (ret x1.1)) xs) fun x => ret (x)))
theorem w_fitting {P : Str → Option Def} {Γ : Str → Option D} (H : H_fitting P Γ) (n : Nat) (v_ranges : (List (List (List (Tx × Own))))) (v_rule : Tx) (v_seen : (List (((Int × Int × Int) × (List Item)) × Bool))) : Fv (callD P Γ (n + 7)) "fitting" [(eT (eT (eT (eP eS eOwn)))) v_ranges, eS v_rule, (eT (eP (eP (e3 eI eI eI) (eT eIt)) eB)) v_seen] (wo eI) (t_fitting v_ranges v_rule v_seen) := by
 refine Fv.mk H.1 ⟨rfl, by decide⟩ ?_
 exact Ex.retO (ea := eI) (g := fun x => x) (So.fil (ea := (eP eI (eT (eT (eP eS eOwn))))) (eb := eI) (It.enumT (ea := (eT (eT (eP eS eOwn)))) (Sv.f (Sv.var (x := v_ranges) (ea := (eT (eT (eT (eP eS eOwn))))) rfl))) fun x1 => ⟨_, rfl, (Sv.call3 (ed := eB) (fun a0 a1 a2 => w_explains H.2 (n + 0) a0 a1 a2) (Sv.f (Sv.var (x := x1.2) (ea := (eT (eT (eP eS eOwn)))) rfl)) (Sv.f (Sv.var (x := v_rule) (ea := eS) rfl)) (Sv.f (Sv.var (x := v_seen) (ea := (eT (eP (eP (e3 eI eI eI) (eT eIt)) eB))) rfl))), (Sv.f (Sv.var (x := x1.1) (ea := eI) rfl))⟩) (fun _ => rfl)
def d_rules_for : Def := ⟨2, false, 3,
 (.cons (.ret (.comp (.name 2) (.ex (.glob "RULES")) (.call "explains" (.cons (.var 0) (.cons (.var 2) (.cons (.var 1) .nil)))) (.elt (.var 2))))
 .nil)⟩
abbrev H_rules_for (P : Str → Option Def) (Γ : Str → Option D) : Prop := P "rules_for" = some d_rules_for ∧ Γ "RULES" = some ((eT eS) c_RULES) ∧ H_explains P Γ
def t_rules_for (v_spans : (List (List (Tx × Own)))) (v_seen : (List (((Int × Int × Int) × (List Item)) × Bool))) : Option (List Tx) := run (
 (bnd (bnd (ret c_RULES) fun xs => filT (fun x1 => (bnd (ret v_spans) fun a0 => bnd (ret x1) fun a1 => bnd (ret v_seen) fun a2 => lift (t_explains a0 a1 a2))) (fun x1 => (ret x1)) xs) fun x => ret (x)))
theorem w_rules_for {P : Str → Option Def} {Γ : Str → Option D} (H : H_rules_for P Γ) (n : Nat) (v_spans : (List (List (Tx × Own)))) (v_seen : (List (((Int × Int × Int) × (List Item)) × Bool))) : Fv (callD P Γ (n + 7)) "rules_for" [(eT (eT (eP eS eOwn))) v_spans, (eT (eP (eP (e3 eI eI eI) (eT eIt)) eB)) v_seen] (wo eS) (t_rules_for v_spans v_seen) := by
 refine Fv.mk H.1 ⟨rfl, by decide⟩ ?_
 exact Ex.retO (ea := eS) (g := fun x => x) (So.fil (ea := eS) (eb := eS) (It.exT (ea := eS) (Sv.f (Sv.glob (x := c_RULES) (ea := (eT eS)) H.2.1))) fun x1 => ⟨_, rfl, (Sv.call3 (ed := eB) (fun a0 a1 a2 => w_explains H.2.2 (n + 0) a0 a1 a2) (Sv.f (Sv.var (x := v_spans) (ea := (eT (eT (eP eS eOwn)))) rfl)) (Sv.f (Sv.var (x := x1) (ea := eS) rfl)) (Sv.f (Sv.var (x := v_seen) (ea := (eT (eP (eP (e3 eI eI eI) (eT eIt)) eB))) rfl))), (Sv.f (Sv.var (x := x1) (ea := eS) rfl))⟩) (fun _ => rfl)
def s__law_near_1 : S := .ite (.cmp .eq (.var 4) (.cst (.int 0)))
 (.cons (.set 5 (.bin .add (.slt (.var 5) (.cst (.int 2))) (.tup (.cons (.callT "_law_part" (.cons (.var 2) .nil)) .nil))))
 .nil)
 .nil
def s__law_near_2 : S := .ite (.cmp .eq (.var 4) (.cst (.int 1)))
 (.cons (.set 5 (.slf (.var 5) (.cst (.int 1))))
 .nil)
 .nil
def s__law_near_3 : S := .ite (.cmp .eq (.var 4) (.cst (.int 2)))
 (.cons (.set 5 (.rev (.var 5)))
 .nil)
 .nil
def s__law_near_4 : S := .ite (.and (.cmp .eq (.var 4) (.cst (.int 3))) (.cmp .lt (.bi .len (.cons (.var 1) .nil)) (.cst (.int 4))))
 (.cons (.ret (.bin .add (.var 1) (.tup (.cons (.var 5) .nil))))
 .nil)
 .nil
def s__law_near_5 : S := .ite (.and (.cmp .eq (.var 4) (.cst (.int 4))) (.cmp .gt (.bi .len (.cons (.var 1) .nil)) (.cst (.int 1))))
 (.cons (.ret (.bin .add (.slt (.var 1) (.var 3)) (.slf (.var 1) (.bin .add (.var 3) (.cst (.int 1))))))
 .nil)
 .nil
def d__law_near : Def := ⟨3, true, 6,
 (.cons (.par [(3, false), (4, false)] (.cons (.callT "_law_draw" (.cons (.bi .len (.cons (.var 1) .nil)) .nil)) (.cons (.callT "_law_draw" (.cons (.cst (.int 5)) .nil)) .nil)))
 (.cons (.set 5 (.sub (.var 1) (.var 3)))
 (.cons s__law_near_1
 (.cons s__law_near_2
 (.cons s__law_near_3
 (.cons s__law_near_4
 (.cons s__law_near_5
 (.cons (.ret (.bin .add (.bin .add (.slt (.var 1) (.var 3)) (.tup (.cons (.var 5) .nil))) (.slf (.var 1) (.bin .add (.var 3) (.cst (.int 1))))))
 .nil))))))))⟩
abbrev H__law_near (P : Str → Option Def) (Γ : Str → Option D) : Prop := P "_law_near" = some d__law_near ∧ H__law_draw P Γ ∧ H__law_part P Γ
def t__law_near (v_spans : (List (List (Tx × Own)))) (v_most : Int) : M (List (List (Tx × Own))) :=
 (bnd (needT (bnd (bnd (ret v_spans) fun x => ret ((x.length : Nat) : Int)) fun a0 => needT (t__law_draw a0))) fun y1 => bnd (needT (bnd (ret (5 : Int)) fun a0 => needT (t__law_draw a0))) fun y2 => 
 (bnd (bnd (ret v_spans) fun x => bnd (ret y1) fun y => lift (atT x y)) fun y3 =>
 (bnd (bnd (bnd (ret y2) fun x => bnd (ret (0 : Int)) fun y => ret ((fun x y => decide (x = y)) x y)) fun c => if c then ((bnd (bnd (bnd (ret y3) fun x => bnd (ret (2 : Int)) fun y => ret (cutT x y)) fun x => bnd (bnd (bnd (needT (bnd (ret v_most) fun a0 => needT (t__law_part a0))) fun x => bnd (ret []) fun ys => ret (x :: ys)) fun xs => lift (fitT xs)) fun y => lift (catT x y)) fun y4 =>
   (ret y4))) else ((ret y3))) fun (s5 : (List (Tx × Own))) =>
 (bnd (bnd (bnd (ret y2) fun x => bnd (ret (1 : Int)) fun y => ret ((fun x y => decide (x = y)) x y)) fun c => if c then ((bnd (bnd (ret s5) fun x => bnd (ret (1 : Int)) fun y => ret (cutF x y)) fun y6 =>
   (ret y6))) else ((ret s5))) fun (s7 : (List (Tx × Own))) =>
 (bnd (bnd (bnd (ret y2) fun x => bnd (ret (2 : Int)) fun y => ret ((fun x y => decide (x = y)) x y)) fun c => if c then ((bnd (bnd (ret s7) fun x => ret x.reverse) fun y8 =>
   (ret y8))) else ((ret s7))) fun (s9 : (List (Tx × Own))) =>
 (bnd (bnd (bnd (ret y2) fun x => bnd (ret (3 : Int)) fun y => ret ((fun x y => decide (x = y)) x y)) fun c => if c then (bnd (bnd (ret v_spans) fun x => ret ((x.length : Nat) : Int)) fun x => bnd (ret (4 : Int)) fun y => ret ((fun x y => ltI x y) x y)) else ret false) fun c => if c then
  (bnd (ret v_spans) fun x => bnd (bnd (bnd (ret s9) fun x => bnd (ret []) fun ys => ret (x :: ys)) fun xs => lift (fitT xs)) fun y => lift (catT x y))
 else
  (bnd (bnd (bnd (ret y2) fun x => bnd (ret (4 : Int)) fun y => ret ((fun x y => decide (x = y)) x y)) fun c => if c then (bnd (bnd (ret v_spans) fun x => ret ((x.length : Nat) : Int)) fun x => bnd (ret (1 : Int)) fun y => ret ((fun x y => ltI y x) x y)) else ret false) fun c => if c then
   (bnd (bnd (ret v_spans) fun x => bnd (ret y1) fun y => ret (cutT x y)) fun x => bnd (bnd (ret v_spans) fun x => bnd (bnd (ret y1) fun x => bnd (ret (1 : Int)) fun y => ret (x + y)) fun y => ret (cutF x y)) fun y => lift (catT x y))
  else
   (bnd (bnd (bnd (ret v_spans) fun x => bnd (ret y1) fun y => ret (cutT x y)) fun x => bnd (bnd (bnd (ret s9) fun x => bnd (ret []) fun ys => ret (x :: ys)) fun xs => lift (fitT xs)) fun y => lift (catT x y)) fun x => bnd (bnd (ret v_spans) fun x => bnd (bnd (ret y1) fun x => bnd (ret (1 : Int)) fun y => ret (x + y)) fun y => ret (cutF x y)) fun y => lift (catT x y)))))))))
theorem w__law_near {P : Str → Option Def} {Γ : Str → Option D} (H : H__law_near P Γ) (n : Nat) (v_spans : (List (List (Tx × Own)))) (v_most : Int) : Ft (callD P Γ (n + 5)) "_law_near" [(eT (eT (eP eS eOwn))) v_spans, eI v_most] (wv (eT (eT (eP eS eOwn)))) (t__law_near v_spans v_most) := by
 refine Ft.mk H.1 ⟨rfl, by decide⟩ ?_
 refine Ex.par2 (ra := (wv eI)) (rb := (wv eI)) (Sv.callT1 (ed := eI) (fun a0 => w__law_draw H.2.1 (n + 3) a0) (Sv.f (Sv.bi1p (ed := eI) (bi_lenT (e := (eT (eP eS eOwn)))) (Sv.k (Sv.var (x := v_spans) (ea := (eT (eT (eP eS eOwn)))) rfl))))) (Sv.callT1 (ed := eI) (fun a0 => w__law_draw H.2.1 (n + 3) a0) (Sv.f (Sv.cst (x := (5 : Int)) (ea := eI) rfl))) (fun _ _ => rfl) fun y1 y2 => ?_
 refine Ex.set (ea := (eT (eP eS eOwn))) (Sv.f (Sv.sub (sub_atT (e := (eT (eP eS eOwn)))) (Sv.k (Sv.var (x := v_spans) (ea := (eT (eT (eP eS eOwn)))) rfl)) (Sv.k (Sv.var (x := y1) (ea := eI) rfl)))) fun y3 => ?_
 refine Ex.iteJ (σ := (List (Tx × Own))) (fun (s : (List (Tx × Own))) (ρ : Env) => ρ = [none, some (.val ((eT (eT (eP eS eOwn))) v_spans)), some (.val (eI v_most)), some (.val (eI y1)), some (.val (eI y2)), some (.val ((eT (eP eS eOwn)) s))]) (Sv.cmp (g := (fun x y => decide (x = y))) (cmp_eq (e := eI) (by decide)) (Sv.k (Sv.var (x := y2) (ea := eI) rfl)) (Sv.k (Sv.cst (x := (0 : Int)) (ea := eI) rfl))) ?_ ?_ (fun s5 ρ' hJ => ?_)
 · skip
   refine Ex.set (ea := (eT (eP eS eOwn))) (Sv.f (Sv.op (op_addT (e := (eP eS eOwn))) (Sv.k (Sv.slt (slt_T (e := (eP eS eOwn))) (Sv.k (Sv.var (x := y3) (ea := (eT (eP eS eOwn))) rfl)) (Sv.k (Sv.cst (x := (2 : Int)) (ea := eI) rfl)))) (Sv.k (Sv.tupL (As.cons (ea := (eP eS eOwn)) (Sv.f (Sv.callT1 (ed := (eP eS eOwn)) (fun a0 => w__law_part H.2.2 (n + 0) a0) (Sv.f (Sv.var (x := v_most) (ea := eI) rfl)))) As.nil))))) fun y4 => ?_
   exact Ex.nil (s := y4) ⟨rfl, rfl⟩
 · skip
   exact Ex.nil (s := y3) ⟨rfl, rfl⟩
 · obtain rfl := hJ
   refine Ex.iteJ (σ := (List (Tx × Own))) (fun (s : (List (Tx × Own))) (ρ : Env) => ρ = [none, some (.val ((eT (eT (eP eS eOwn))) v_spans)), some (.val (eI v_most)), some (.val (eI y1)), some (.val (eI y2)), some (.val ((eT (eP eS eOwn)) s))]) (Sv.cmp (g := (fun x y => decide (x = y))) (cmp_eq (e := eI) (by decide)) (Sv.k (Sv.var (x := y2) (ea := eI) rfl)) (Sv.k (Sv.cst (x := (1 : Int)) (ea := eI) rfl))) ?_ ?_ (fun s7 ρ' hJ => ?_)
   · skip
     refine Ex.set (ea := (eT (eP eS eOwn))) (Sv.f (Sv.slf (slf_T (e := (eP eS eOwn))) (Sv.k (Sv.var (x := s5) (ea := (eT (eP eS eOwn))) rfl)) (Sv.k (Sv.cst (x := (1 : Int)) (ea := eI) rfl)))) fun y6 => ?_
     exact Ex.nil (s := y6) ⟨rfl, rfl⟩
   · skip
     exact Ex.nil (s := s5) ⟨rfl, rfl⟩
   · obtain rfl := hJ
     refine Ex.iteJ (σ := (List (Tx × Own))) (fun (s : (List (Tx × Own))) (ρ : Env) => ρ = [none, some (.val ((eT (eT (eP eS eOwn))) v_spans)), some (.val (eI v_most)), some (.val (eI y1)), some (.val (eI y2)), some (.val ((eT (eP eS eOwn)) s))]) (Sv.cmp (g := (fun x y => decide (x = y))) (cmp_eq (e := eI) (by decide)) (Sv.k (Sv.var (x := y2) (ea := eI) rfl)) (Sv.k (Sv.cst (x := (2 : Int)) (ea := eI) rfl))) ?_ ?_ (fun s9 ρ' hJ => ?_)
     · skip
       refine Ex.set (ea := (eT (eP eS eOwn))) (Sv.f (Sv.revT (ea := (eP eS eOwn)) (Sv.k (Sv.var (x := s7) (ea := (eT (eP eS eOwn))) rfl)))) fun y8 => ?_
       exact Ex.nil (s := y8) ⟨rfl, rfl⟩
     · skip
       exact Ex.nil (s := s7) ⟨rfl, rfl⟩
     · obtain rfl := hJ
       refine Ex.ite (Sv.and (Sv.cmp (g := (fun x y => decide (x = y))) (cmp_eq (e := eI) (by decide)) (Sv.k (Sv.var (x := y2) (ea := eI) rfl)) (Sv.k (Sv.cst (x := (3 : Int)) (ea := eI) rfl))) (Sv.cmp (g := (fun x y => ltI x y)) (cmp_lt (e := eI) (by decide)) (Sv.k (Sv.bi1p (ed := eI) (bi_lenT (e := (eT (eP eS eOwn)))) (Sv.k (Sv.var (x := v_spans) (ea := (eT (eT (eP eS eOwn)))) rfl)))) (Sv.k (Sv.cst (x := (4 : Int)) (ea := eI) rfl)))) ?_ ?_
       · skip
         exact Ex.ret0 (ea := (eT (eT (eP eS eOwn)))) (Sv.op (op_addT (e := (eT (eP eS eOwn)))) (Sv.k (Sv.var (x := v_spans) (ea := (eT (eT (eP eS eOwn)))) rfl)) (Sv.k (Sv.tupL (As.cons (ea := (eT (eP eS eOwn))) (Sv.f (Sv.var (x := s9) (ea := (eT (eP eS eOwn))) rfl)) As.nil)))) (fun _ => rfl)
       · skip
         refine Ex.ite (Sv.and (Sv.cmp (g := (fun x y => decide (x = y))) (cmp_eq (e := eI) (by decide)) (Sv.k (Sv.var (x := y2) (ea := eI) rfl)) (Sv.k (Sv.cst (x := (4 : Int)) (ea := eI) rfl))) (Sv.cmp (g := (fun x y => ltI y x)) (cmp_gt (e := eI) (by decide)) (Sv.k (Sv.bi1p (ed := eI) (bi_lenT (e := (eT (eP eS eOwn)))) (Sv.k (Sv.var (x := v_spans) (ea := (eT (eT (eP eS eOwn)))) rfl)))) (Sv.k (Sv.cst (x := (1 : Int)) (ea := eI) rfl)))) ?_ ?_
         · skip
           exact Ex.ret0 (ea := (eT (eT (eP eS eOwn)))) (Sv.op (op_addT (e := (eT (eP eS eOwn)))) (Sv.k (Sv.slt (slt_T (e := (eT (eP eS eOwn)))) (Sv.k (Sv.var (x := v_spans) (ea := (eT (eT (eP eS eOwn)))) rfl)) (Sv.k (Sv.var (x := y1) (ea := eI) rfl)))) (Sv.k (Sv.slf (slf_T (e := (eT (eP eS eOwn)))) (Sv.k (Sv.var (x := v_spans) (ea := (eT (eT (eP eS eOwn)))) rfl)) (Sv.k (Sv.opp op_addI (Sv.k (Sv.var (x := y1) (ea := eI) rfl)) (Sv.k (Sv.cst (x := (1 : Int)) (ea := eI) rfl))))))) (fun _ => rfl)
         · skip
           exact Ex.ret0 (ea := (eT (eT (eP eS eOwn)))) (Sv.op (op_addT (e := (eT (eP eS eOwn)))) (Sv.k (Sv.op (op_addT (e := (eT (eP eS eOwn)))) (Sv.k (Sv.slt (slt_T (e := (eT (eP eS eOwn)))) (Sv.k (Sv.var (x := v_spans) (ea := (eT (eT (eP eS eOwn)))) rfl)) (Sv.k (Sv.var (x := y1) (ea := eI) rfl)))) (Sv.k (Sv.tupL (As.cons (ea := (eT (eP eS eOwn))) (Sv.f (Sv.var (x := s9) (ea := (eT (eP eS eOwn))) rfl)) As.nil))))) (Sv.k (Sv.slf (slf_T (e := (eT (eP eS eOwn)))) (Sv.k (Sv.var (x := v_spans) (ea := (eT (eT (eP eS eOwn)))) rfl)) (Sv.k (Sv.opp op_addI (Sv.k (Sv.var (x := y1) (ea := eI) rfl)) (Sv.k (Sv.cst (x := (1 : Int)) (ea := eI) rfl))))))) (fun _ => rfl)
end Ev

set_option Elab.async false
set_option linter.all false
set_option maxRecDepth 100000
set_option maxHeartbeats 1000000
namespace Ev
open PySem
def d_choice : Def := ⟨3, false, 6,
 (.cons (.set 3 (.comp (.name 5) (.ex (.var 1)) (.call "allows" (.cons (.var 0) (.cons (.var 5) (.cons (.var 2) .nil)))) (.elt (.var 5))))
 (.cons (.set 4 (.comp (.name 5) (.ex (.var 3)) (.cmp .eq (.sub (.var 5) (.cst (.int 1))) (.tup .nil)) (.elt (.var 5))))
 (.cons (.set 3 (.ite (.cmp .ne (.var 4) (.lst .nil)) (.var 4) (.var 3)))
 (.cons (.ret (.ite (.cmp .ne (.var 3) (.lst .nil)) (.best true (.var 3) "key") (.cst .none)))
 .nil))))⟩
abbrev H_choice (P : Str → Option Def) (Γ : Str → Option D) : Prop := P "choice" = some d_choice ∧ H_allows P Γ ∧ H_key P Γ
def t_choice (v_spans : (List (List (Tx × Own)))) (v_versions : (List ((Int × Int × Int) × (List Item)))) (v_rule : Tx) : Option (Option ((Int × Int × Int) × (List Item))) := run (
 (bnd (bnd (ret v_versions) fun xs => filT (fun x2 => (bnd (ret v_spans) fun a0 => bnd (ret x2) fun a1 => bnd (ret v_rule) fun a2 => lift (t_allows a0 a1 a2))) (fun x2 => (ret x2)) xs) fun y1 =>
 (bnd (bnd (ret y1) fun xs => filT (fun x4 => (bnd (bnd (ret x4) fun x => ret ((fun x => x.2) x)) fun x => bnd (bnd (ret []) fun xs => lift (fitT xs)) fun y => ret ((fun x y => decide (x = y)) x y))) (fun x4 => (ret x4)) xs) fun y3 =>
 (bnd (bnd (bnd (ret y3) fun x => bnd (bnd (ret []) fun xs => lift (fitT xs)) fun y => ret ((fun x y => !decide (x = y)) x y)) fun c => if c then (ret y3) else (ret y1)) fun y5 =>
 (bnd (bnd (ret y5) fun x => bnd (bnd (ret []) fun xs => lift (fitT xs)) fun y => ret ((fun x y => !decide (x = y)) x y)) fun c => if c then (bnd (bnd (ret y5) fun xs => lift (bestT true (t_key) (lt3 (lt3 ltI ltI ltI) ltI (ltL (lt3 ltI ltI ltB))) xs)) fun x => ret (some x)) else (bnd (ret ()) fun x => ret ((fun _ => (none : Option ((Int × Int × Int) × (List Item)))) x)))))))
theorem w_choice {P : Str → Option Def} {Γ : Str → Option D} (H : H_choice P Γ) (n : Nat) (v_spans : (List (List (Tx × Own)))) (v_versions : (List ((Int × Int × Int) × (List Item)))) (v_rule : Tx) : Fv (callD P Γ (n + 6)) "choice" [(eT (eT (eP eS eOwn))) v_spans, (eT (eP (e3 eI eI eI) (eT eIt))) v_versions, eS v_rule] (wv (eO (eP (e3 eI eI eI) (eT eIt)))) (t_choice v_spans v_versions v_rule) := by
 refine Fv.mk H.1 ⟨rfl, by decide⟩ ?_
 refine Ex.set (ea := (eL (eP (e3 eI eI eI) (eT eIt)))) (So.f (So.fil (ea := (eP (e3 eI eI eI) (eT eIt))) (eb := (eP (e3 eI eI eI) (eT eIt))) (It.exT (ea := (eP (e3 eI eI eI) (eT eIt))) (Sv.f (Sv.var (x := v_versions) (ea := (eT (eP (e3 eI eI eI) (eT eIt)))) rfl))) fun x2 => ⟨_, rfl, (Sv.call3 (ed := eB) (fun a0 a1 a2 => w_allows H.2.1 (n + 0) a0 a1 a2) (Sv.f (Sv.var (x := v_spans) (ea := (eT (eT (eP eS eOwn)))) rfl)) (Sv.f (Sv.var (x := x2) (ea := (eP (e3 eI eI eI) (eT eIt))) rfl)) (Sv.f (Sv.var (x := v_rule) (ea := eS) rfl))), (Sv.f (Sv.var (x := x2) (ea := (eP (e3 eI eI eI) (eT eIt))) rfl))⟩)) fun y1 => ?_
 refine Ex.set (ea := (eL (eP (e3 eI eI eI) (eT eIt)))) (So.f (So.fil (ea := (eP (e3 eI eI eI) (eT eIt))) (eb := (eP (e3 eI eI eI) (eT eIt))) (It.exL (ea := (eP (e3 eI eI eI) (eT eIt))) (Sv.f (Sv.var (x := y1) (ea := (eL (eP (e3 eI eI eI) (eT eIt)))) rfl))) fun x4 => ⟨_, rfl, (Sv.cmp (g := (fun x y => decide (x = y))) (cmp_eq (e := (eT eIt)) (by decide)) (Sv.k (Sv.fld (g := (fun x => x.2)) fld_p1 (Sv.k (Sv.var (x := x4) (ea := (eP (e3 eI eI eI) (eT eIt))) rfl)))) (Sv.k (Sv.tupL As.nil))), (Sv.f (Sv.var (x := x4) (ea := (eP (e3 eI eI eI) (eT eIt))) rfl))⟩)) fun y3 => ?_
 refine Ex.set (ea := (eL (eP (e3 eI eI eI) (eT eIt)))) (Sv.f (Sv.ite (Sv.cmp (g := (fun x y => !decide (x = y))) (cmp_ne (e := (eL (eP (e3 eI eI eI) (eT eIt)))) (by decide)) (Sv.k (Sv.var (x := y3) (ea := (eL (eP (e3 eI eI eI) (eT eIt)))) rfl)) (So.k (So.lst As.nil))) (Sv.var (x := y3) (ea := (eL (eP (e3 eI eI eI) (eT eIt)))) rfl) (Sv.var (x := y1) (ea := (eL (eP (e3 eI eI eI) (eT eIt)))) rfl))) fun y5 => ?_
 exact Ex.ret0 (ea := (eO (eP (e3 eI eI eI) (eT eIt)))) (Sv.ite (Sv.cmp (g := (fun x y => !decide (x = y))) (cmp_ne (e := (eL (eP (e3 eI eI eI) (eT eIt)))) (by decide)) (Sv.k (Sv.var (x := y5) (ea := (eL (eP (e3 eI eI eI) (eT eIt)))) rfl)) (So.k (So.lst As.nil))) (Sv.up (eb := (eO (eP (e3 eI eI eI) (eT eIt)))) (g := some) (Sv.bestL (ea := (eP (e3 eI eI eI) (eT eIt))) (eb := (e3 (e3 eI eI eI) eI (eT (e3 eI eI eS)))) (by decide) (fun x => w_key H.2.2 (n + 3) x) (Sv.k (Sv.var (x := y5) (ea := (eL (eP (e3 eI eI eI) (eT eIt)))) rfl))) (fun _ => rfl)) (Sv.up (eb := (eO (eP (e3 eI eI eI) (eT eIt)))) (g := (fun _ => (none : Option ((Int × Int × Int) × (List Item))))) (Sv.cst (x := ()) (ea := eU) rfl) (fun _ => rfl))) (fun _ => rfl)
def s__law_choice_1 : S := .ite (.cmp .ne (.comp (.name 4) (.ex (.var 3)) (.cmp .eq (.sub (.var 4) (.cst (.int 1))) (.tup .nil)) (.elt (.var 4))) (.lst .nil))
 (.cons (.set 3 (.comp (.name 4) (.ex (.var 3)) (.cmp .eq (.sub (.var 4) (.cst (.int 1))) (.tup .nil)) (.elt (.var 4))))
 .nil)
 .nil
def d__law_choice : Def := ⟨3, false, 5,
 (.cons (.set 3 (.comp (.name 4) (.ex (.var 1)) (.call "_law_allowed" (.cons (.var 0) (.cons (.var 4) (.cons (.var 2) .nil)))) (.elt (.var 4))))
 (.cons s__law_choice_1
 (.cons (.ret (.ite (.cmp .ne (.var 3) (.lst .nil)) (.sub (.srt (.var 3) "_law_key") (.neg (.cst (.int 1)))) (.cst .none)))
 .nil)))⟩
abbrev H__law_choice (P : Str → Option Def) (Γ : Str → Option D) : Prop := P "_law_choice" = some d__law_choice ∧ H__law_allowed P Γ ∧ H__law_key P Γ
def t__law_choice (v_spans : (List (List (Tx × Own)))) (v_versions : (List ((Int × Int × Int) × (List Item)))) (v_rule : Tx) : Option (Option ((Int × Int × Int) × (List Item))) := run (
 (bnd (bnd (ret v_versions) fun xs => filT (fun x2 => (bnd (ret v_spans) fun a0 => bnd (ret x2) fun a1 => bnd (ret v_rule) fun a2 => lift (t__law_allowed a0 a1 a2))) (fun x2 => (ret x2)) xs) fun y1 =>
 (bnd (bnd (bnd (bnd (ret y1) fun xs => filT (fun x3 => (bnd (bnd (ret x3) fun x => ret ((fun x => x.2) x)) fun x => bnd (bnd (ret []) fun xs => lift (fitT xs)) fun y => ret ((fun x y => decide (x = y)) x y))) (fun x3 => (ret x3)) xs) fun x => bnd (bnd (ret []) fun xs => lift (fitT xs)) fun y => ret ((fun x y => !decide (x = y)) x y)) fun c => if c then ((bnd (bnd (ret y1) fun xs => filT (fun x5 => (bnd (bnd (ret x5) fun x => ret ((fun x => x.2) x)) fun x => bnd (bnd (ret []) fun xs => lift (fitT xs)) fun y => ret ((fun x y => decide (x = y)) x y))) (fun x5 => (ret x5)) xs) fun y4 =>
   (ret y4))) else ((ret y1))) fun (s6 : (List ((Int × Int × Int) × (List Item)))) =>
 (bnd (bnd (ret s6) fun x => bnd (bnd (ret []) fun xs => lift (fitT xs)) fun y => ret ((fun x y => !decide (x = y)) x y)) fun c => if c then (bnd (bnd (bnd (ret s6) fun xs => lift (srtT (t__law_key) (ltP (lt3 ltI ltI ltI) (ltL (lt3 ltI ltI ltB))) xs)) fun x => bnd (bnd (ret (1 : Int)) fun x => ret (-x)) fun y => lift (atT x y)) fun x => ret (some x)) else (bnd (ret ()) fun x => ret ((fun _ => (none : Option ((Int × Int × Int) × (List Item)))) x))))))
theorem w__law_choice {P : Str → Option Def} {Γ : Str → Option D} (H : H__law_choice P Γ) (n : Nat) (v_spans : (List (List (Tx × Own)))) (v_versions : (List ((Int × Int × Int) × (List Item)))) (v_rule : Tx) : Fv (callD P Γ (n + 5)) "_law_choice" [(eT (eT (eP eS eOwn))) v_spans, (eT (eP (e3 eI eI eI) (eT eIt))) v_versions, eS v_rule] (wv (eO (eP (e3 eI eI eI) (eT eIt)))) (t__law_choice v_spans v_versions v_rule) := by
 refine Fv.mk H.1 ⟨rfl, by decide⟩ ?_
 refine Ex.set (ea := (eL (eP (e3 eI eI eI) (eT eIt)))) (So.f (So.fil (ea := (eP (e3 eI eI eI) (eT eIt))) (eb := (eP (e3 eI eI eI) (eT eIt))) (It.exT (ea := (eP (e3 eI eI eI) (eT eIt))) (Sv.f (Sv.var (x := v_versions) (ea := (eT (eP (e3 eI eI eI) (eT eIt)))) rfl))) fun x2 => ⟨_, rfl, (Sv.call3 (ed := eB) (fun a0 a1 a2 => w__law_allowed H.2.1 (n + 0) a0 a1 a2) (Sv.f (Sv.var (x := v_spans) (ea := (eT (eT (eP eS eOwn)))) rfl)) (Sv.f (Sv.var (x := x2) (ea := (eP (e3 eI eI eI) (eT eIt))) rfl)) (Sv.f (Sv.var (x := v_rule) (ea := eS) rfl))), (Sv.f (Sv.var (x := x2) (ea := (eP (e3 eI eI eI) (eT eIt))) rfl))⟩)) fun y1 => ?_
 refine Ex.iteJ (σ := (List ((Int × Int × Int) × (List Item)))) (fun (s : (List ((Int × Int × Int) × (List Item)))) (ρ : Env) => ρ = [some (.val ((eT (eT (eP eS eOwn))) v_spans)), some (.val ((eT (eP (e3 eI eI eI) (eT eIt))) v_versions)), some (.val (eS v_rule)), some (.val ((eL (eP (e3 eI eI eI) (eT eIt))) s)), none]) (Sv.cmp (g := (fun x y => !decide (x = y))) (cmp_ne (e := (eL (eP (e3 eI eI eI) (eT eIt)))) (by decide)) (So.k (So.fil (ea := (eP (e3 eI eI eI) (eT eIt))) (eb := (eP (e3 eI eI eI) (eT eIt))) (It.exL (ea := (eP (e3 eI eI eI) (eT eIt))) (Sv.f (Sv.var (x := y1) (ea := (eL (eP (e3 eI eI eI) (eT eIt)))) rfl))) fun x3 => ⟨_, rfl, (Sv.cmp (g := (fun x y => decide (x = y))) (cmp_eq (e := (eT eIt)) (by decide)) (Sv.k (Sv.fld (g := (fun x => x.2)) fld_p1 (Sv.k (Sv.var (x := x3) (ea := (eP (e3 eI eI eI) (eT eIt))) rfl)))) (Sv.k (Sv.tupL As.nil))), (Sv.f (Sv.var (x := x3) (ea := (eP (e3 eI eI eI) (eT eIt))) rfl))⟩)) (So.k (So.lst As.nil))) ?_ ?_ (fun s6 ρ' hJ => ?_)
 · skip
   refine Ex.set (ea := (eL (eP (e3 eI eI eI) (eT eIt)))) (So.f (So.fil (ea := (eP (e3 eI eI eI) (eT eIt))) (eb := (eP (e3 eI eI eI) (eT eIt))) (It.exL (ea := (eP (e3 eI eI eI) (eT eIt))) (Sv.f (Sv.var (x := y1) (ea := (eL (eP (e3 eI eI eI) (eT eIt)))) rfl))) fun x5 => ⟨_, rfl, (Sv.cmp (g := (fun x y => decide (x = y))) (cmp_eq (e := (eT eIt)) (by decide)) (Sv.k (Sv.fld (g := (fun x => x.2)) fld_p1 (Sv.k (Sv.var (x := x5) (ea := (eP (e3 eI eI eI) (eT eIt))) rfl)))) (Sv.k (Sv.tupL As.nil))), (Sv.f (Sv.var (x := x5) (ea := (eP (e3 eI eI eI) (eT eIt))) rfl))⟩)) fun y4 => ?_
   exact Ex.nil (s := y4) ⟨rfl, rfl⟩
 · skip
   exact Ex.nil (s := y1) ⟨rfl, rfl⟩
 · obtain rfl := hJ
   exact Ex.ret0 (ea := (eO (eP (e3 eI eI eI) (eT eIt)))) (Sv.ite (Sv.cmp (g := (fun x y => !decide (x = y))) (cmp_ne (e := (eL (eP (e3 eI eI eI) (eT eIt)))) (by decide)) (Sv.k (Sv.var (x := s6) (ea := (eL (eP (e3 eI eI eI) (eT eIt)))) rfl)) (So.k (So.lst As.nil))) (Sv.up (eb := (eO (eP (e3 eI eI eI) (eT eIt)))) (g := some) (Sv.sub (sub_atL (e := (eP (e3 eI eI eI) (eT eIt)))) (So.k (So.srtL (ea := (eP (e3 eI eI eI) (eT eIt))) (eb := (eP (e3 eI eI eI) (eL (e3 eI eI eS)))) (by decide) (fun x => w__law_key H.2.2 (n + 2) x) (Sv.k (Sv.var (x := s6) (ea := (eL (eP (e3 eI eI eI) (eT eIt)))) rfl)))) (Sv.k (Sv.neg (Sv.cst (x := (1 : Int)) (ea := eI) rfl)))) (fun _ => rfl)) (Sv.up (eb := (eO (eP (e3 eI eI eI) (eT eIt)))) (g := (fun _ => (none : Option ((Int × Int × Int) × (List Item))))) (Sv.cst (x := ()) (ea := eU) rfl) (fun _ => rfl))) (fun _ => rfl)
end Ev

set_option Elab.async false
set_option linter.all false
set_option maxRecDepth 100000
set_option maxHeartbeats 1000000
namespace Ev
open PySem
def x_c : Tx := ⟨"c", by decide +kernel, by decide +kernel⟩
def s_law_k21_1 : S := .for_ (.name 6) (.rng (.callT "_law_draw" (.cons (.cst (.int 9)) .nil)))
 (.cons (.set 7 (.callT "_law_version" (.cons (.cst (.int 2)) .nil)))
 (.cons (.set 5 (.ite (.cmp .notin (.var 7) (.var 5)) (.bin .add (.var 5) (.tup (.cons (.var 7) .nil))) (.var 5)))
 .nil))
def s_law_k21_2 : S := .ite (.not (.call "_law_like" (.cons (.call "choice" (.cons (.var 3) (.cons (.var 5) (.cons (.var 4) .nil)))) (.cons (.call "_law_choice" (.cons (.var 3) (.cons (.var 5) (.cons (.var 4) .nil)))) .nil))))
 (.cons (.ret (.cst (.bool false)))
 .nil)
 .nil
def s_law_k21_3 : S := .ite (.cmp .ne (.call "choice" (.cons (.var 3) (.cons (.rev (.var 5)) (.cons (.var 4) .nil)))) (.call "choice" (.cons (.var 3) (.cons (.var 5) (.cons (.var 4) .nil)))))
 (.cons (.ret (.cst (.bool false)))
 .nil)
 .nil
def s_law_k21_4 : S := .for_ (.name 2) (.rng (.cst (.int 30)))
 (.cons (.par [(3, false), (4, false), (5, false)] (.cons (.callT "_law_range" (.cons (.cst (.int 2)) .nil)) (.cons (.callT "_law_rule" .nil) (.cons (.tup .nil) .nil))))
 (.cons s_law_k21_1
 (.cons s_law_k21_2
 (.cons s_law_k21_3
 .nil))))
def d_law_k21 : Def := ⟨1, false, 10,
 (.cons (.tini 1 (.lst (.cons (.bi .list (.cons (.var 0) .nil)) (.cons (.cst (.int 0)) (.cons (.cst (.int 0)) .nil)))))
 (.cons s_law_k21_4
 (.cons (.set 8 (.tup (.cons (.tup (.cons (.tup (.cons (.cst (.str "^")) (.cons (.tup (.cons (.tup (.cons (.cst (.int 1)) (.cons (.cst (.int 0)) (.cons (.cst (.int 0)) .nil)))) (.cons (.tup (.cons (.cst (.str "a")) .nil)) .nil))) .nil))) .nil)) .nil)))
 (.cons (.set 9 (.tup (.cons (.tup (.cons (.tup (.cons (.cst (.int 1)) (.cons (.cst (.int 0)) (.cons (.cst (.int 0)) .nil)))) (.cons (.tup (.cons (.cst (.str "b")) .nil)) .nil))) (.cons (.tup (.cons (.tup (.cons (.cst (.int 1)) (.cons (.cst (.int 0)) (.cons (.cst (.int 0)) .nil)))) (.cons (.tup (.cons (.cst (.str "c")) .nil)) .nil))) (.cons (.tup (.cons (.tup (.cons (.cst (.int 0)) (.cons (.cst (.int 9)) (.cons (.cst (.int 0)) .nil)))) (.cons (.tup .nil) .nil))) .nil)))))
 (.cons (.ret (.and (.cmp .eq (.call "choice" (.cons (.var 8) (.cons (.var 9) (.cons (.cst (.str "listed")) .nil)))) (.tup (.cons (.tup (.cons (.cst (.int 1)) (.cons (.cst (.int 0)) (.cons (.cst (.int 0)) .nil)))) (.cons (.tup (.cons (.cst (.str "c")) .nil)) .nil)))) (.cmp .iss (.call "choice" (.cons (.var 8) (.cons (.tup .nil) (.cons (.cst (.str "plain")) .nil)))) (.cst .none))))
 .nil)))))⟩
abbrev H_law_k21 (P : Str → Option Def) (Γ : Str → Option D) : Prop := P "law" = some d_law_k21 ∧ H__law_range P Γ ∧ H__law_rule P Γ ∧ H__law_draw P Γ ∧ H__law_version P Γ ∧ H_choice P Γ ∧ H__law_choice P Γ ∧ H__law_like P Γ
def t_law_k21 (v_script : (List Int)) : Option Bool := run (
 (fun _ => ((bnd (bnd (ret (30 : Int)) fun n => lift (rangeT n)) fun xs => bnd (forT (fun (s1 : Unit) x2 =>
   (bnd (needT (bnd (ret (2 : Int)) fun a0 => needT (t__law_range a0))) fun y9 => bnd (needT (needT (t__law_rule))) fun y10 => bnd (bnd (ret []) fun xs => lift (fitT xs)) fun y11 => 
   (bnd (bnd (needT (bnd (ret (9 : Int)) fun a0 => needT (t__law_draw a0))) fun n => lift (rangeT n)) fun xs => bnd (foldT (fun (s12 : (List ((Int × Int × Int) × (List Item)))) x13 =>
     (bnd (needT (bnd (ret (2 : Int)) fun a0 => needT (t__law_version a0))) fun y16 =>
     (bnd (bnd (bnd (ret y16) fun x => bnd (ret s12) fun y => ret ((fun x y => !memT x y) x y)) fun c => if c then (bnd (ret s12) fun x => bnd (bnd (bnd (ret y16) fun x => bnd (ret []) fun ys => ret (x :: ys)) fun xs => lift (fitT xs)) fun y => lift (catT x y)) else (ret s12)) fun y17 =>
     (ret y17)))) xs y11) (fun s18 =>
   (bnd (bnd (bnd (bnd (bnd (ret y9) fun a0 => bnd (ret s18) fun a1 => bnd (ret y10) fun a2 => lift (t_choice a0 a1 a2)) fun x => ret ((eO (eP (e3 eI eI eI) (eT eIt))) x)) fun a0 => bnd (bnd (bnd (ret y9) fun a0 => bnd (ret s18) fun a1 => bnd (ret y10) fun a2 => lift (t__law_choice a0 a1 a2)) fun x => ret ((eO (eP (e3 eI eI eI) (eT eIt))) x)) fun a1 => lift (t__law_like a0 a1)) fun x => ret (!x)) fun c => if c then
    (bnd (ret false) fun x => ret (Sum.inl (x)))
   else
    (bnd (bnd (bnd (ret y9) fun a0 => bnd (bnd (ret s18) fun x => ret x.reverse) fun a1 => bnd (ret y10) fun a2 => lift (t_choice a0 a1 a2)) fun x => bnd (bnd (ret y9) fun a0 => bnd (ret s18) fun a1 => bnd (ret y10) fun a2 => lift (t_choice a0 a1 a2)) fun y => ret ((fun x y => !decide (x = y)) x y)) fun c => if c then
     (bnd (ret false) fun x => ret (Sum.inl (x)))
    else
     (ret (Sum.inr ())))))))) xs ()) (outT fun s19 =>
 (bnd (bnd (bnd (bnd (bnd (bnd (ret x__5e) fun x => bnd (bnd (bnd (bnd (ret (1 : Int)) fun x => bnd (ret (0 : Int)) fun y => bnd (ret (0 : Int)) fun z => ret (x, y, z)) fun x => bnd (bnd (bnd (bnd (ret x_a) fun x => ret (Item.word x)) fun x => bnd (ret []) fun ys => ret (x :: ys)) fun xs => lift (fitT xs)) fun y => ret (x, y)) fun x => ret (Own.ver x)) fun y => ret (x, y)) fun x => bnd (ret []) fun ys => ret (x :: ys)) fun xs => lift (fitT xs)) fun x => bnd (ret []) fun ys => ret (x :: ys)) fun xs => lift (fitT xs)) fun y20 =>
 (bnd (bnd (bnd (bnd (bnd (ret (1 : Int)) fun x => bnd (ret (0 : Int)) fun y => bnd (ret (0 : Int)) fun z => ret (x, y, z)) fun x => bnd (bnd (bnd (bnd (ret x_b) fun x => ret (Item.word x)) fun x => bnd (ret []) fun ys => ret (x :: ys)) fun xs => lift (fitT xs)) fun y => ret (x, y)) fun x => bnd (bnd (bnd (bnd (ret (1 : Int)) fun x => bnd (ret (0 : Int)) fun y => bnd (ret (0 : Int)) fun z => ret (x, y, z)) fun x => bnd (bnd (bnd (bnd (ret x_c) fun x => ret (Item.word x)) fun x => bnd (ret []) fun ys => ret (x :: ys)) fun xs => lift (fitT xs)) fun y => ret (x, y)) fun x => bnd (bnd (bnd (bnd (ret (0 : Int)) fun x => bnd (ret (9 : Int)) fun y => bnd (ret (0 : Int)) fun z => ret (x, y, z)) fun x => bnd (bnd (ret []) fun xs => lift (fitT xs)) fun y => ret (x, y)) fun x => bnd (ret []) fun ys => ret (x :: ys)) fun ys => ret (x :: ys)) fun ys => ret (x :: ys)) fun xs => lift (fitT xs)) fun y21 =>
 (bnd (bnd (bnd (ret y20) fun a0 => bnd (ret y21) fun a1 => bnd (ret x_listed) fun a2 => lift (t_choice a0 a1 a2)) fun x => bnd (bnd (bnd (bnd (ret (1 : Int)) fun x => bnd (ret (0 : Int)) fun y => bnd (ret (0 : Int)) fun z => ret (x, y, z)) fun x => bnd (bnd (bnd (bnd (ret x_c) fun x => ret (Item.word x)) fun x => bnd (ret []) fun ys => ret (x :: ys)) fun xs => lift (fitT xs)) fun y => ret (x, y)) fun x => ret (some x)) fun y => ret ((fun x y => decide (x = y)) x y)) fun c => if c then (bnd (bnd (ret y20) fun a0 => bnd (bnd (ret []) fun xs => lift (fitT xs)) fun a1 => bnd (ret x_plain) fun a2 => lift (t_choice a0 a1 a2)) fun x => bnd (ret ()) fun y => ret ((fun x _ => Option.isNone x) x y)) else ret false)))))) (tape0 v_script)))
theorem w_law_k21 {P : Str → Option Def} {Γ : Str → Option D} (H : H_law_k21 P Γ) (n : Nat) (v_script : (List Int)) : Fv (callD P Γ (n + 13)) "law" [(eL eI) v_script] (wv eB) (t_law_k21 v_script) := by
 refine Fv.mk H.1 ⟨rfl, by decide⟩ ?_
 refine Ex.tape (ns := v_script) rfl (Nat.le_of_ble_eq_true rfl) ?_
 refine Ex.for1 (σ := Unit) (fun (s : Unit) (ρ : Env) => ∃ g3 g4 g5 g6 g7 g8 : Option R, ρ = [some (.val ((eL eI) v_script)), none, g3, g4, g5, g6, g7, g8, none, none]) (ea := eI) (It.rng (Sv.cst (x := (30 : Int)) (ea := eI) rfl)) ⟨_, _, _, _, _, _, rfl⟩ (fun s1 x2 ρ' hJ => ?_) (fun s19 ρ' hJ => ?_)
 · obtain ⟨g3, g4, g5, g6, g7, g8, rfl⟩ := hJ
   refine ⟨_, rfl, ?_⟩
   refine Ex.par3 (ra := (wv (eT (eT (eP eS eOwn))))) (rb := (wv eS)) (rc := (wv (eT (eP (e3 eI eI eI) (eT eIt))))) (Sv.callT1 (ed := (eT (eT (eP eS eOwn)))) (fun a0 => w__law_range H.2.1 (n + 7) a0) (Sv.f (Sv.cst (x := (2 : Int)) (ea := eI) rfl))) (Sv.callT0 (ed := eS) (w__law_rule H.2.2.1 (n + 10)) ) (Sv.tupL As.nil) (fun _ _ _ => rfl) fun y9 y10 y11 => ?_
   refine Ex.for0 (σ := (List ((Int × Int × Int) × (List Item)))) (fun (s : (List ((Int × Int × Int) × (List Item)))) (ρ : Env) => ∃ g14 g15 : Option R, ρ = [some (.val ((eL eI) v_script)), none, some (.val (eI x2)), some (.val ((eT (eT (eP eS eOwn))) y9)), some (.val (eS y10)), some (.val ((eT (eP (e3 eI eI eI) (eT eIt))) s)), g14, g15, none, none]) (ea := eI) (It.rng (Sv.callT1 (ed := eI) (fun a0 => w__law_draw H.2.2.2.1 (n + 11) a0) (Sv.f (Sv.cst (x := (9 : Int)) (ea := eI) rfl)))) ⟨_, _, rfl⟩ (fun s12 x13 ρ' hJ => ?_) (fun s18 ρ' hJ => ?_)
   · obtain ⟨g14, g15, rfl⟩ := hJ
     refine ⟨_, rfl, ?_⟩
     refine Ex.set (ea := (eP (e3 eI eI eI) (eT eIt))) (Sv.f (Sv.callT1 (ed := (eP (e3 eI eI eI) (eT eIt))) (fun a0 => w__law_version H.2.2.2.2.1 (n + 9) a0) (Sv.f (Sv.cst (x := (2 : Int)) (ea := eI) rfl)))) fun y16 => ?_
     refine Ex.set (ea := (eT (eP (e3 eI eI eI) (eT eIt)))) (Sv.f (Sv.ite (Sv.cmp (g := (fun x y => !memT x y)) (cm_ninT (e := (eP (e3 eI eI eI) (eT eIt))) (by decide)) (Sv.k (Sv.var (x := y16) (ea := (eP (e3 eI eI eI) (eT eIt))) rfl)) (Sv.k (Sv.var (x := s12) (ea := (eT (eP (e3 eI eI eI) (eT eIt)))) rfl))) (Sv.op (op_addT (e := (eP (e3 eI eI eI) (eT eIt)))) (Sv.k (Sv.var (x := s12) (ea := (eT (eP (e3 eI eI eI) (eT eIt)))) rfl)) (Sv.k (Sv.tupL (As.cons (ea := (eP (e3 eI eI eI) (eT eIt))) (Sv.f (Sv.var (x := y16) (ea := (eP (e3 eI eI eI) (eT eIt))) rfl)) As.nil)))) (Sv.var (x := s12) (ea := (eT (eP (e3 eI eI eI) (eT eIt)))) rfl))) fun y17 => ?_
     exact Ex.nil (s := y17) ⟨rfl, ⟨_, _, rfl⟩⟩
   · obtain ⟨g14, g15, rfl⟩ := hJ
     refine Ex.ite (Sv.not (Sv.call2 (ed := eB) (fun a0 a1 => w__law_like H.2.2.2.2.2.2.2 (n + 0) a0 a1) (Sv.f (Sv.up (eb := eD) (g := (eO (eP (e3 eI eI eI) (eT eIt)))) (Sv.call3 (ed := (eO (eP (e3 eI eI eI) (eT eIt)))) (fun a0 a1 a2 => w_choice H.2.2.2.2.2.1 (n + 6) a0 a1 a2) (Sv.f (Sv.var (x := y9) (ea := (eT (eT (eP eS eOwn)))) rfl)) (Sv.f (Sv.var (x := s18) (ea := (eT (eP (e3 eI eI eI) (eT eIt)))) rfl)) (Sv.f (Sv.var (x := y10) (ea := eS) rfl))) (fun _ => rfl))) (Sv.f (Sv.up (eb := eD) (g := (eO (eP (e3 eI eI eI) (eT eIt)))) (Sv.call3 (ed := (eO (eP (e3 eI eI eI) (eT eIt)))) (fun a0 a1 a2 => w__law_choice H.2.2.2.2.2.2.1 (n + 7) a0 a1 a2) (Sv.f (Sv.var (x := y9) (ea := (eT (eT (eP eS eOwn)))) rfl)) (Sv.f (Sv.var (x := s18) (ea := (eT (eP (e3 eI eI eI) (eT eIt)))) rfl)) (Sv.f (Sv.var (x := y10) (ea := eS) rfl))) (fun _ => rfl))))) ?_ ?_
     · skip
       exact Ex.ret (ea := eB) (g := fun x => Sum.inl (x)) (Sv.cst (x := false) (ea := eB) rfl) (fun _ => ⟨(fun h => (nomatch h)), rfl⟩)
     · skip
       refine Ex.ite (Sv.cmp (g := (fun x y => !decide (x = y))) (cmp_ne (e := (eO (eP (e3 eI eI eI) (eT eIt)))) (by decide)) (Sv.k (Sv.call3 (ed := (eO (eP (e3 eI eI eI) (eT eIt)))) (fun a0 a1 a2 => w_choice H.2.2.2.2.2.1 (n + 6) a0 a1 a2) (Sv.f (Sv.var (x := y9) (ea := (eT (eT (eP eS eOwn)))) rfl)) (Sv.f (Sv.revT (ea := (eP (e3 eI eI eI) (eT eIt))) (Sv.k (Sv.var (x := s18) (ea := (eT (eP (e3 eI eI eI) (eT eIt)))) rfl)))) (Sv.f (Sv.var (x := y10) (ea := eS) rfl)))) (Sv.k (Sv.call3 (ed := (eO (eP (e3 eI eI eI) (eT eIt)))) (fun a0 a1 a2 => w_choice H.2.2.2.2.2.1 (n + 6) a0 a1 a2) (Sv.f (Sv.var (x := y9) (ea := (eT (eT (eP eS eOwn)))) rfl)) (Sv.f (Sv.var (x := s18) (ea := (eT (eP (e3 eI eI eI) (eT eIt)))) rfl)) (Sv.f (Sv.var (x := y10) (ea := eS) rfl))))) ?_ ?_
       · skip
         exact Ex.ret (ea := eB) (g := fun x => Sum.inl (x)) (Sv.cst (x := false) (ea := eB) rfl) (fun _ => ⟨(fun h => (nomatch h)), rfl⟩)
       · skip
         exact Ex.nil (s := Sum.inr ()) ⟨rfl, ⟨_, _, _, _, _, _, rfl⟩⟩
 · obtain ⟨g3, g4, g5, g6, g7, g8, rfl⟩ := hJ
   refine Ex.set (ea := (eT (eT (eP eS eOwn)))) (Sv.f (Sv.tupL (As.cons (ea := (eT (eP eS eOwn))) (Sv.f (Sv.tupL (As.cons (ea := (eP eS eOwn)) (Sv.f (Sv.tup2 (ea := eS) (eb := eOwn) (Sv.f (Sv.cst (x := x__5e) (ea := eS) rfl)) (Sv.f (Sv.up (eb := eOwn) (g := Own.ver) (Sv.tup2 (ea := (e3 eI eI eI)) (eb := (eT eIt)) (Sv.f (Sv.tup3 (ea := eI) (eb := eI) (ec := eI) (Sv.f (Sv.cst (x := (1 : Int)) (ea := eI) rfl)) (Sv.f (Sv.cst (x := (0 : Int)) (ea := eI) rfl)) (Sv.f (Sv.cst (x := (0 : Int)) (ea := eI) rfl)))) (Sv.f (Sv.tupL (As.cons (ea := eIt) (Sv.f (Sv.up (eb := eIt) (g := Item.word) (Sv.cst (x := x_a) (ea := eS) rfl) (fun _ => rfl))) As.nil)))) (fun _ => rfl))))) As.nil))) As.nil))) fun y20 => ?_
   refine Ex.set (ea := (eT (eP (e3 eI eI eI) (eT eIt)))) (Sv.f (Sv.tupL (As.cons (ea := (eP (e3 eI eI eI) (eT eIt))) (Sv.f (Sv.tup2 (ea := (e3 eI eI eI)) (eb := (eT eIt)) (Sv.f (Sv.tup3 (ea := eI) (eb := eI) (ec := eI) (Sv.f (Sv.cst (x := (1 : Int)) (ea := eI) rfl)) (Sv.f (Sv.cst (x := (0 : Int)) (ea := eI) rfl)) (Sv.f (Sv.cst (x := (0 : Int)) (ea := eI) rfl)))) (Sv.f (Sv.tupL (As.cons (ea := eIt) (Sv.f (Sv.up (eb := eIt) (g := Item.word) (Sv.cst (x := x_b) (ea := eS) rfl) (fun _ => rfl))) As.nil))))) (As.cons (ea := (eP (e3 eI eI eI) (eT eIt))) (Sv.f (Sv.tup2 (ea := (e3 eI eI eI)) (eb := (eT eIt)) (Sv.f (Sv.tup3 (ea := eI) (eb := eI) (ec := eI) (Sv.f (Sv.cst (x := (1 : Int)) (ea := eI) rfl)) (Sv.f (Sv.cst (x := (0 : Int)) (ea := eI) rfl)) (Sv.f (Sv.cst (x := (0 : Int)) (ea := eI) rfl)))) (Sv.f (Sv.tupL (As.cons (ea := eIt) (Sv.f (Sv.up (eb := eIt) (g := Item.word) (Sv.cst (x := x_c) (ea := eS) rfl) (fun _ => rfl))) As.nil))))) (As.cons (ea := (eP (e3 eI eI eI) (eT eIt))) (Sv.f (Sv.tup2 (ea := (e3 eI eI eI)) (eb := (eT eIt)) (Sv.f (Sv.tup3 (ea := eI) (eb := eI) (ec := eI) (Sv.f (Sv.cst (x := (0 : Int)) (ea := eI) rfl)) (Sv.f (Sv.cst (x := (9 : Int)) (ea := eI) rfl)) (Sv.f (Sv.cst (x := (0 : Int)) (ea := eI) rfl)))) (Sv.f (Sv.tupL As.nil)))) As.nil))))) fun y21 => ?_
   exact Ex.ret0 (ea := eB) (Sv.and (Sv.cmp (g := (fun x y => decide (x = y))) (cmp_eq (e := (eO (eP (e3 eI eI eI) (eT eIt)))) (by decide)) (Sv.k (Sv.call3 (ed := (eO (eP (e3 eI eI eI) (eT eIt)))) (fun a0 a1 a2 => w_choice H.2.2.2.2.2.1 (n + 6) a0 a1 a2) (Sv.f (Sv.var (x := y20) (ea := (eT (eT (eP eS eOwn)))) rfl)) (Sv.f (Sv.var (x := y21) (ea := (eT (eP (e3 eI eI eI) (eT eIt)))) rfl)) (Sv.f (Sv.cst (x := x_listed) (ea := eS) rfl)))) (Sv.k (Sv.up (eb := (eO (eP (e3 eI eI eI) (eT eIt)))) (g := some) (Sv.tup2 (ea := (e3 eI eI eI)) (eb := (eT eIt)) (Sv.f (Sv.tup3 (ea := eI) (eb := eI) (ec := eI) (Sv.f (Sv.cst (x := (1 : Int)) (ea := eI) rfl)) (Sv.f (Sv.cst (x := (0 : Int)) (ea := eI) rfl)) (Sv.f (Sv.cst (x := (0 : Int)) (ea := eI) rfl)))) (Sv.f (Sv.tupL (As.cons (ea := eIt) (Sv.f (Sv.up (eb := eIt) (g := Item.word) (Sv.cst (x := x_c) (ea := eS) rfl) (fun _ => rfl))) As.nil)))) (fun _ => rfl)))) (Sv.cmp (g := (fun x _ => Option.isNone x)) (cmp_isN (e := (eP (e3 eI eI eI) (eT eIt)))) (Sv.k (Sv.call3 (ed := (eO (eP (e3 eI eI eI) (eT eIt)))) (fun a0 a1 a2 => w_choice H.2.2.2.2.2.1 (n + 6) a0 a1 a2) (Sv.f (Sv.var (x := y20) (ea := (eT (eT (eP eS eOwn)))) rfl)) (Sv.f (Sv.tupL As.nil)) (Sv.f (Sv.cst (x := x_plain) (ea := eS) rfl)))) (Sv.k (Sv.cst (x := ()) (ea := eU) rfl)))) (fun _ => rfl)
end Ev

set_option Elab.async false
set_option linter.all false
set_option maxRecDepth 100000
set_option maxHeartbeats 4000000
namespace Ev
open PySem
/-! R1: versions and their order, plainly; drawn versions. -/
def itemKey : Item → Int × Int × Tx
  | .num i => (0, i, x_e)
  | .word s => (1, 0, s)
abbrev VKey := Num × Int × List (Int × Int × Tx)
abbrev ltN : Num → Num → Bool := lt3 ltI ltI ltI
abbrev ltK3 : (Int × Int × Tx) → (Int × Int × Tx) → Bool := lt3 ltI ltI ltB
abbrev ltK : VKey → VKey → Bool := lt3 ltN ltI (ltL ltK3)
def verKey (v : Ver) : VKey := (v.1, if v.2 = [] then 1 else 0, v.2.map itemKey)
/-- the order of versions -/
def vlt (v w : Ver) : Bool := ltK (verKey v) (verKey w)
def raisedN (n : Num) : Num := (n.1, n.2.1, n.2.2 + 1)
def nextV (v : Ver) : Ver := if v.2 = [] then (raisedN v.1, [.num 0]) else (v.1, v.2 ++ [.num 0])
theorem t_item_key_eq (x : Item) : t_item_key x = some (itemKey x) := by cases x <;> rfl
theorem t_key_eq (v : Ver) : t_key v = some (verKey v) := by
  unfold t_key
  simp only [bnd_ret, t_item_key_eq, lift_some, mapT_ret, fitT_ok (show ([] : List Item).length ≤ big by decide), ite_ret, run_ret, decide_eq_true_eq]
  rfl
theorem t_before_eq (v w : Ver) : t_before v w = some (vlt v w) := by
  unfold t_before
  simp only [bnd_ret, t_key_eq, lift_some, run_ret]
  rfl
theorem t_raised_eq (n : Num) : t_raised n = some (raisedN n) := rfl
theorem t_next_version_eq (v : Ver) (h : v.2.length < big) : t_next_version v = some (nextV v) := by
  unfold t_next_version
  simp only [bnd_ret, t_raised_eq, lift_some, fitT_ok (show ([] : List Item).length ≤ big by decide), fitT_ok (show ([Item.num 0] : List Item).length ≤ big by decide), fitT_ok (show (v.2 ++ [Item.num 0]).length ≤ big by simp; omega), ite_ret, run_ret, decide_eq_true_eq]
  rfl
theorem t__law_item_key_eq (x : Item) : t__law_item_key x = some (itemKey x) := by cases x <;> rfl
def lawKey (v : Ver) : Num × List (Int × Int × Tx) := (v.1, if v.2.map itemKey = [] then [(2, 0, x_e)] else v.2.map itemKey)
def lawlt (v w : Ver) : Bool := ltP ltN (ltL ltK3) (lawKey v) (lawKey w)
theorem t__law_key_eq (v : Ver) : t__law_key v = some (lawKey v) := by
  unfold t__law_key
  simp only [bnd_ret, t__law_item_key_eq, lift_some, mapT_ret, fitT_ok (show ([] : List (Int × Int × Tx)).length ≤ big by decide), fitT_ok (show ([(2, 0, x_e)] : List (Int × Int × Tx)).length ≤ big by simp [big]), ite_ret, run_ret, decide_eq_true_eq, Bool.not_eq_true', decide_eq_false_iff_not]
  unfold lawKey
  by_cases h : v.2.map itemKey = [] <;> simp [h]
theorem t__law_more_eq (n : Num) : t__law_more n = some (raisedN n) := rfl
theorem t__law_next_eq (v : Ver) (h : v.2.length < big) : t__law_next v = some (nextV v) := by
  unfold t__law_next
  simp only [bnd_ret, t__law_more_eq, lift_some, fitT_ok (show ([] : List Item).length ≤ big by decide), fitT_ok (show ([Item.num 0] : List Item).length ≤ big by decide), catT_ok (show v.2.length + ([Item.num 0] : List Item).length ≤ big by simp; omega), ite_ret, run_ret, decide_eq_true_eq]
  rfl
/-! ### one order -/
theorem itemKey_inj {x y : Item} (h : itemKey x = itemKey y) : x = y := by
  cases x <;> cases y <;> simp [itemKey] at h <;> first | rw [h] | skip
theorem itemKeys_inj : ∀ {xs ys : List Item}, xs.map itemKey = ys.map itemKey → xs = ys
  | [], [], _ => rfl
  | [], _ :: _, h => by simp at h
  | _ :: _, [], h => by simp at h
  | x :: xs, y :: ys, h => by
    simp only [List.map_cons, List.cons.injEq] at h
    rw [itemKey_inj h.1, itemKeys_inj h.2]
theorem verKey_inj {v w : Ver} (h : verKey v = verKey w) : v = w := by
  unfold verKey at h
  simp only [Prod.mk.injEq] at h
  exact Prod.ext h.1 (itemKeys_inj h.2.2)
instance : LinO vlt where
  irr := fun x => LinO.irr (verKey x)
  tr := fun {x y z} h k => LinO.tr (l := ltK) h k
  tot := fun {x y} h k => verKey_inj (LinO.tot (l := ltK) h k)
theorem itemKey_lt2 (x : Item) : ltK3 (itemKey x) (2, 0, x_e) = true := by cases x <;> simp [itemKey, lt3, ltI]
theorem itemKey_ne2 (x : Item) : itemKey x ≠ (2, 0, x_e) := by cases x <;> simp [itemKey]
theorem itemKey_ge2 (x : Item) : ltK3 (2, 0, x_e) (itemKey x) = false := by cases x <;> simp [itemKey, lt3, ltI]
theorem lawlt_eq (v w : Ver) : lawlt v w = vlt v w := by
  obtain ⟨n, xs⟩ := v
  obtain ⟨m, ys⟩ := w
  unfold lawlt vlt lawKey verKey ltK ltP
  rw [lt3_ltP]
  unfold ltP
  simp only
  by_cases h : n = m
  · rw [if_pos h, if_pos h]
    cases xs with
    | nil => cases ys with
      | nil => simp [ltL, lt3, ltI]
      | cons y ys => simp [ltL, itemKey_ge2, Ne.symm (itemKey_ne2 y), ltI]
    | cons x xs => cases ys with
      | nil => simp [ltL, itemKey_lt2, itemKey_ne2 x, ltI]
      | cons y ys => simp [ltL]
  · rw [if_neg h, if_neg h]
/-! ### likeness of typed values -/
class LkE {α : Type} (e : Enc α) [DecidableEq α] : Prop where
  lk : ∀ x y, likeD (e x) (e y) = decide (x = y)
theorem likeAll_maps {α : Type} [DecidableEq α] {e : Enc α} (h : ∀ x y, likeD (e x) (e y) = decide (x = y)) : ∀ xs ys : List α, likeAll (xs.map e) (ys.map e) = decide (xs = ys)
  | [], [] => by simp [likeAll]
  | [], y :: ys => by simp [likeAll]
  | x :: xs, [] => by simp [likeAll]
  | x :: xs, y :: ys => by
    rw [List.map_cons, List.map_cons, likeAll, h x y, likeAll_maps h xs ys]
    simp
section
variable {α β γ : Type} [DecidableEq α] [DecidableEq β] [DecidableEq γ] {a : Enc α} {b : Enc β} {c : Enc γ}
instance : LkE eI := ⟨fun x y => by
  show likeD (.int x) (.int y) = _
  simp only [likeD, isOf]
  exact (EqE.eq (e := eI) x y)⟩
instance : LkE eB := ⟨fun x y => by cases x <;> cases y <;> decide⟩
instance : LkE eS := ⟨fun x y => by
  show likeD (.str x.1) (.str y.1) = _
  simp only [likeD, isOf]
  exact (EqE.eq (e := eS) x y)⟩
instance : LkE eIt := ⟨fun x y => by
  rw [← EqE.eq (e := eIt) x y]
  cases x <;> cases y <;> simp only [eIt, likeD, isOf] <;> rfl⟩
instance [h : LkE a] : LkE (eT a) := ⟨fun x y => by
  show likeD (.tuple _) (.tuple _) = _
  rw [likeD]
  exact likeAll_maps h.lk x y⟩
instance [h : LkE a] : LkE (eL a) := ⟨fun x y => by
  show likeD (.list _) (.list _) = _
  rw [likeD]
  exact likeAll_maps h.lk x y⟩
instance [h : LkE a] [k : LkE b] : LkE (eP a b) := ⟨fun x y => by
  show likeD (.tuple [a x.1, b x.2]) (.tuple [a y.1, b y.2]) = _
  rw [likeD, likeAll, likeAll, likeAll, h.lk, k.lk]
  exact Bool.eq_iff_iff.mpr (by simp [Prod.ext_iff])⟩
instance [h : LkE a] [k : LkE b] [j : LkE c] : LkE (e3 a b c) := ⟨fun x y => by
  show likeD (.tuple [a x.1, b x.2.1, c x.2.2]) (.tuple [a y.1, b y.2.1, c y.2.2]) = _
  rw [likeD, likeAll, likeAll, likeAll, likeAll, h.lk, k.lk, j.lk]
  exact Bool.eq_iff_iff.mpr (by simp [Prod.ext_iff])⟩
end
section
variable {α β γ : Type} {a : Enc α} {b : Enc β} {c : Enc γ}
theorem short_I (i : Int) : short (eI i) = true := rfl
theorem short_B (i : Bool) : short (eB i) = true := rfl
theorem short_S (i : Tx) : short (eS i) = true := rfl
theorem short_It (i : Item) : short (eIt i) = true := by cases i <;> rfl
theorem shortAll_map {e : Enc α} : ∀ xs : List α, shortAll (xs.map e) = xs.all fun x => short (e x)
  | [] => rfl
  | x :: xs => by rw [List.map_cons, shortAll, shortAll_map xs]; rfl
theorem short_T (xs : List α) : short (eT a xs) = (decide (xs.length ≤ big) && xs.all fun x => short (a x)) := by
  show short (.tuple (xs.map a)) = _
  rw [short, List.length_map, shortAll_map]
theorem short_L (xs : List α) : short (eL a xs) = (decide (xs.length ≤ big) && xs.all fun x => short (a x)) := by
  show short (.list (xs.map a)) = _
  rw [short, List.length_map, shortAll_map]
theorem short_P (x : α × β) : short (eP a b x) = (short (a x.1) && short (b x.2)) := by
  show short (.tuple [a x.1, b x.2]) = _
  simp [short, shortAll, big]
theorem short_3 (x : α × β × γ) : short (e3 a b c x) = (short (a x.1) && (short (b x.2.1) && short (c x.2.2))) := by
  show short (.tuple [a x.1, b x.2.1, c x.2.2]) = _
  simp [short, shortAll, big]
theorem short_V (v : Ver) (h : v.2.length ≤ big) : short (eV v) = true := by
  rw [short_P, short_3, short_I, short_I, short_I, short_T]
  simp [h, short_It]
theorem like_eq [DecidableEq α] {n : Nat} [h : OkE a n] [k : LkE a] (hn : n ≤ 10) {x y : α} (hs : short (a x) = true) : t__law_like (a x) (a y) = some (decide (x = y)) := by
  unfold t__law_like likeOk
  rw [ok_up _ _ _ hn (h.ok x), ok_up n 60 _ (by omega) (h.ok y), hs, k.lk]
  rfl
end
/-! ### draws -/
abbrev tailT : List Item := [.num 0, .num 1, .num 2, .word x_a, .word x_b, .word x_rc, .num 10, .num 0]
def VerOk (most : Int) (v : Ver) : Prop := ((0 ≤ v.1.1 ∧ v.1.1 ≤ most) ∧ (0 ≤ v.1.2.1 ∧ v.1.2.1 ≤ most) ∧ 0 ≤ v.1.2.2 ∧ v.1.2.2 ≤ most) ∧ v.2.length ≤ 4 ∧ ∀ x ∈ v.2, x ∈ tailT
theorem ok_numbers {t : Tape} (ht : Drawn t) {most : Int} (h0 : 0 ≤ most) (h1 : (most + 1).natAbs < 2 ^ 400) : Ok (t__law_numbers most) t fun n t' => ((0 ≤ n.1 ∧ n.1 ≤ most) ∧ (0 ≤ n.2.1 ∧ n.2.1 ≤ most) ∧ 0 ≤ n.2.2 ∧ n.2.2 ≤ most) ∧ Drawn t' := by
  unfold t__law_numbers
  simp only [bnd_ret, ok_bnd, ok_needT, ok_ret]
  refine ⟨ht.ne, ht.ne, (ok_draw ht (by omega) h1).mono ?_⟩
  rintro a t1 ⟨a1, a2, h2⟩
  refine ⟨h2.ne, h2.ne, (ok_draw h2 (by omega) h1).mono ?_⟩
  rintro b t2 ⟨b1, b2, h3⟩
  refine ⟨h3.ne, h3.ne, (ok_draw h3 (by omega) h1).mono ?_⟩
  rintro c t3 ⟨c1, c2, h4⟩
  exact ⟨⟨⟨a1, by omega⟩, ⟨b1, by omega⟩, c1, by omega⟩, h4⟩
theorem ok_tail {t : Tape} (ht : Drawn t) : Ok t__law_tail t fun xs t' => (xs.length ≤ 4 ∧ ∀ x ∈ xs, x ∈ tailT) ∧ Drawn t' := by
  unfold t__law_tail
  simp only [bnd_ret, bnd_ret_r, bnd_assoc, lift_some, run_ret, ite_ret, bool_and, bool_or, mapT_ret, filT_ret, flatT_ret, filT_id, mapT_id, outT_inr, outT_inl, fit0, fit1, fit2, fit3, fit4, fit5, fit6, fit7, fit8, fit9, fit10, fit11, fit12, ok_bnd, ok_needT, ok_ret, ok_lift]
  refine ⟨ht.ne, ht.ne, (ok_draw ht (by decide) (by decide)).mono ?_⟩
  rintro a t1 ⟨a1, a2, h1⟩
  obtain ⟨n, e, hn⟩ := atT_get (xs := [(0 : Int), 0, 0, 1, 1, 2, 3, 4]) a1 (by simpa using a2)
  obtain ⟨k, rfl, hk⟩ : ∃ k : Nat, n = k ∧ k ≤ 4 := by
    simp only [List.mem_cons, List.not_mem_nil, or_false] at hn
    rcases hn with rfl | rfl | rfl | rfl | rfl | rfl | rfl | rfl <;> first | exact ⟨0, rfl, by decide⟩ | exact ⟨1, rfl, by decide⟩ | exact ⟨2, rfl, by decide⟩ | exact ⟨3, rfl, by decide⟩ | exact ⟨4, rfl, by decide⟩
  refine ⟨_, e, _, rangeT_ok (by simp only [big]; omega), ?_⟩
  refine (okT_foldN (fun i (s : List Item) t => s.length = i ∧ (∀ x ∈ s, x ∈ tailT) ∧ Drawn t) _ 0 _ _ ⟨rfl, by simp, h1⟩ fun x hx i s t hi hI => ?_).mono ?_
  · obtain ⟨h2, h3, h4⟩ := hI
    rw [List.length_map, List.length_range] at hi
    simp only [bnd_ret, bnd_ret_r, bnd_assoc, lift_some, run_ret, ite_ret, bool_and, bool_or, mapT_ret, filT_ret, flatT_ret, filT_id, mapT_id, outT_inr, outT_inl, fit0, fit1, fit2, fit3, fit4, fit5, fit6, fit7, fit8, fit9, fit10, fit11, fit12, ok_bnd, ok_needT, ok_ret, ok_lift]
    refine ⟨h4.ne, h4.ne, (ok_draw h4 (by decide) (by decide)).mono ?_⟩
    rintro b t2 ⟨b1, b2, h5⟩
    obtain ⟨y, ey, hy⟩ := atT_get (xs := tailT) b1 (by simpa using b2)
    have hb : s.length + 1 ≤ big := by simp only [big]; omega
    refine ⟨_, ey, _, catT_ok (by simpa using hb), by simp [h2], fun z hz => ?_, h5⟩
    rcases List.mem_append.mp hz with hz | hz
    · exact h3 z hz
    · rw [List.mem_singleton.mp hz]; exact hy
  · rintro s t2 ⟨h2, h3, h4⟩
    rw [List.length_map, List.length_range] at h2
    exact ⟨⟨by omega, h3⟩, h4⟩
theorem ok_version {t : Tape} (ht : Drawn t) {most : Int} (h0 : 0 ≤ most) (h1 : (most + 1).natAbs < 2 ^ 400) : Ok (t__law_version most) t fun v t' => VerOk most v ∧ Drawn t' := by
  unfold t__law_version
  simp only [bnd_ret, bnd_ret_r, bnd_assoc, lift_some, run_ret, ite_ret, bool_and, bool_or, mapT_ret, filT_ret, flatT_ret, filT_id, mapT_id, outT_inr, outT_inl, fit0, fit1, fit2, fit3, fit4, fit5, fit6, fit7, fit8, fit9, fit10, fit11, fit12, ok_bnd, ok_needT, ok_ret, ok_lift]
  refine ⟨ht.ne, ht.ne, (ok_numbers ht h0 h1).mono ?_⟩
  rintro n t1 ⟨h2, h3⟩
  refine ⟨h3.ne, h3.ne, (ok_tail h3).mono ?_⟩
  rintro xs t2 ⟨h4, h5⟩
  exact ⟨⟨h2, h4⟩, h5⟩
end Ev

set_option Elab.async false
set_option linter.all false
set_option maxRecDepth 100000
set_option maxHeartbeats 4000000
namespace Ev
open PySem
/-! R2: the next version; what all laws need. -/
theorem run_tape {α : Type} {m : M α} {t : Tape} {y : α} (h : Ok m t fun b _ => b = y) : run (fun _ => m t) = some y := by
  obtain ⟨a, t', h1, rfl⟩ := h.out
  unfold run
  rw [h1]
  rfl
theorem drawn0 {ns : List Int} (h : ns.length ≤ 63) : Drawn (tape0 ns) := ⟨ns, 0, 0, rfl, by decide, by simp only [big]; omega⟩
theorem pow_15 : powT 10 15 = some 1000000000000000 := by decide +kernel
theorem between {α : Type} [DecidableEq α] {l : α → α → Bool} (L : LinO l) {z : α} : ∀ {xs ys : List α}, (∀ y ∈ ys, l y z = false) → ltL l xs ys = true → ltL l ys (xs ++ [z]) = true → False
  | [], [], _, h, _ => by simp [ltL] at h
  | [], y :: ys, hy, _, k => by
    rw [List.nil_append, ltL] at k
    by_cases e : y = z
    · rw [if_pos e] at k
      cases ys <;> simp [ltL] at k
    · rw [if_neg e, hy y List.mem_cons_self] at k
      cases k
  | x :: xs, [], _, h, _ => by simp [ltL] at h
  | x :: xs, y :: ys, hy, h, k => by
    rw [List.cons_append] at k
    rw [ltL] at h k
    by_cases e : x = y
    · rw [if_pos e] at h
      rw [if_pos e.symm] at k
      exact between L (fun y h => hy y (List.mem_cons_of_mem _ h)) h k
    · rw [if_neg e] at h
      rw [if_neg (Ne.symm e), L.asym h] at k
      cases k
theorem ltL_app {α : Type} [DecidableEq α] {l : α → α → Bool} {z : α} : ∀ {xs : List α}, ltL l xs (xs ++ [z]) = true
  | [] => by simp [ltL]
  | x :: xs => by rw [List.cons_append, ltL, if_pos rfl]; exact ltL_app
theorem ltN_raised (n : Num) : ltN n (raisedN n) = true := by
  obtain ⟨a, b, c⟩ := n
  simp [raisedN, lt3, ltI]
  omega
theorem ltN_raised_between {n m : Num} (h : ltN n m = true) (k : ltN m (raisedN n) = true) : False := by
  obtain ⟨a, b, c⟩ := n
  obtain ⟨a', b', c'⟩ := m
  simp only [raisedN, lt3, ltI] at h k
  by_cases e1 : a = a'
  · subst e1
    simp only [if_true] at h k
    by_cases e2 : b = b'
    · subst e2
      simp only [if_true] at h k
      by_cases e3 : c = c' + 0
      · simp_all
      · simp only [decide_eq_true_eq] at h k
        omega
    · simp only [e2, Ne.symm e2, if_false, decide_eq_true_eq] at h k
      omega
  · simp only [e1, Ne.symm e1, if_false, decide_eq_true_eq] at h k
    omega
/-- items that are not negative -/
def NnItems (v : Ver) : Prop := ∀ x ∈ v.2, ltK3 (itemKey x) (0, 0, x_e) = false
theorem vlt_num {v w : Ver} (h : v.1 ≠ w.1) : vlt v w = ltN v.1 w.1 := by
  unfold vlt ltK
  rw [lt3_ltP]
  unfold ltP
  rw [if_neg (by exact h)]
  rfl
theorem vlt_same {v w : Ver} (h : v.1 = w.1) : vlt v w = if v.2 = [] then false else if w.2 = [] then true else ltL ltK3 (v.2.map itemKey) (w.2.map itemKey) := by
  unfold vlt ltK
  rw [lt3_ltP]
  unfold ltP verKey
  simp only [h, if_true]
  by_cases e1 : v.2 = []
  · by_cases e2 : w.2 = []
    · simp [e1, e2, ltL]
    · simp [e1, e2, ltI]
  · by_cases e2 : w.2 = []
    · simp [e1, e2, ltI]
    · simp [e1, e2]
theorem nextV_after (v : Ver) : vlt v (nextV v) = true := by
  obtain ⟨n, xs⟩ := v
  unfold nextV
  by_cases h : xs = []
  · rw [if_pos h, vlt_num (show n ≠ raisedN n from fun e => by obtain ⟨a, b, c⟩ := n; simp [raisedN] at e; omega)]
    exact ltN_raised n
  · rw [if_neg h]
    show vlt (n, xs) (n, xs ++ [Item.num 0]) = true
    rw [vlt_same (v := (n, xs)) (w := (n, xs ++ [Item.num 0])) rfl]
    simp only
    rw [if_neg h, if_neg (by simp), List.map_append]
    exact ltL_app
theorem nextV_between {v w : Ver} (hw : NnItems w) (h : vlt v w = true) (k : vlt w (nextV v) = true) : False := by
  obtain ⟨n, xs⟩ := v
  obtain ⟨m, ys⟩ := w
  unfold nextV at k
  by_cases hx : xs = []
  · rw [if_pos hx] at k
    simp only at k
    by_cases e : n = m
    · rw [vlt_same e, if_pos hx] at h
      cases h
    · rw [vlt_num e] at h
      by_cases e2 : m = raisedN n
      · rw [vlt_same e2] at k
        simp only at k
        by_cases hy : ys = []
        · rw [if_pos hy] at k; cases k
        · rw [if_neg hy, if_neg (by simp)] at k
          cases ys with
          | nil => exact hy rfl
          | cons y ys =>
            have h0 := hw y List.mem_cons_self
            simp only [List.map_cons, List.map_nil] at k
            rw [ltL] at k
            by_cases e3 : itemKey y = itemKey (.num 0)
            · rw [if_pos e3] at k
              cases hys : ys.map itemKey <;> rw [hys] at k <;> simp [ltL] at k
            · rw [if_neg e3] at k
              have h0 : ltK3 (itemKey y) (itemKey (.num 0)) = false := h0
              rw [h0] at k
              cases k
      · rw [vlt_num e2] at k
        exact ltN_raised_between h k
  · rw [if_neg hx] at k
    simp only at k
    by_cases e : n = m
    · rw [vlt_same e, if_neg hx] at h
      rw [vlt_same e.symm] at k
      simp only at h k
      by_cases hy : ys = []
      · rw [if_pos hy] at k; cases k
      · rw [if_neg hy] at h k
        rw [if_neg (by simp), List.map_append] at k
        exact between inferInstance (fun y hm => by
          obtain ⟨x, hx, rfl⟩ := List.mem_map.mp hm
          exact hw x hx) h k
    · rw [vlt_num e] at h
      rw [vlt_num (Ne.symm e)] at k
      have := LinO.asym (l := ltN) inferInstance h
      rw [this] at k
      cases k
def GoodV (v : Ver) : Prop := v.2.length ≤ 4 ∧ NnItems v
theorem tailT_nn : ∀ x ∈ tailT, ltK3 (itemKey x) (0, 0, x_e) = false := by
  intro x hx
  simp only [tailT, List.mem_cons, List.not_mem_nil, or_false] at hx
  rcases hx with rfl | rfl | rfl | rfl | rfl | rfl | rfl | rfl <;> decide +kernel
theorem VerOk.good {most : Int} {v : Ver} (h : VerOk most v) : GoodV v := ⟨h.2.1, fun x hx => tailT_nn x (h.2.2 x hx)⟩
theorem vlt_three {v w : Ver} : (!decide (v = w)) = if vlt v w = true then true else vlt w v := by
  cases h : vlt v w with
  | true =>
    rw [if_pos rfl]
    have : v ≠ w := fun e => by rw [e, LinO.irr (l := vlt)] at h; cases h
    simp [this]
  | false =>
    rw [if_neg (by decide)]
    cases k : vlt w v with
    | true =>
      have : v ≠ w := fun e => by rw [e, LinO.irr (l := vlt)] at k; cases k
      simp [this]
    | false => simp [LinO.tot (l := vlt) h k]
theorem cutT_len {α : Type} (xs : List α) (i : Int) : (cutT xs i).length ≤ xs.length := by
  unfold cutT
  split <;> rw [List.length_take] <;> omega
theorem cutT_mem {α : Type} {xs : List α} {i : Int} {x : α} (h : x ∈ cutT xs i) : x ∈ xs := by
  unfold cutT at h
  split at h <;> exact List.mem_of_mem_take h
end Ev

set_option Elab.async false
set_option linter.all false
set_option maxRecDepth 100000
set_option maxHeartbeats 4000000
namespace Ev
open PySem
/-! R3: ranges, plainly. -/
abbrev sgnT : List Tx := [x__3c, x__3c_3d, x__3d, x__3e, x__3e_3d, x__5e, x__7e]
def NnN (n : Num) : Prop := 0 ≤ n.1 ∧ 0 ≤ n.2.1 ∧ 0 ≤ n.2.2
def WellV (v : Ver) : Prop := NnN v.1 ∧ NnItems v ∧ v.2.length ≤ 1000
def majorN (n : Num) : Num := (n.1 + 1, 0, 0)
def minorN (n : Num) : Num := (n.1, n.2.1 + 1, 0)
def ceilN (n : Num) : Num := if 0 < n.1 then majorN n else if 0 < n.2.1 then minorN n else raisedN n
def tailN (n : Num) : Ver := (n, [.num 0])
def starB : List Int → Ver × Option Ver
  | [] => (((0, 0, 0), []), none)
  | [a] => (((a, 0, 0), []), some (tailN (a + 1, 0, 0)))
  | a :: b :: _ => (((a, b, 0), []), some (tailN (a, b + 1, 0)))
def verB (s : Tx) (v : Ver) : Ver × Option Ver :=
  if s = x__3c then (c_FIRST, some v) else if s = x__3c_3d then (c_FIRST, some (nextV v)) else if s = x__3d then (v, some (nextV v)) else if s = x__3e then (nextV v, none)
  else if s = x__3e_3d then (v, none) else if s = x__5e then (v, some (tailN (ceilN v.1))) else (v, some (tailN (minorN v.1)))
def partB (p : Part) : Ver × Option Ver := match p.2 with
  | .nums xs => starB xs
  | .ver v => verB p.1 v
def PartOk (p : Part) : Prop := (p.1 = x__2a ∧ ∃ xs, p.2 = .nums xs ∧ xs.length ≤ 2 ∧ ∀ i ∈ xs, 0 ≤ i) ∨ (p.1 ∈ sgnT ∧ ∃ v, p.2 = .ver v ∧ WellV v)
theorem PartOk.cases {p : Part} (h : PartOk p) {Q : Part → Prop} (h0 : Q (x__2a, .nums [])) (h1 : ∀ a, 0 ≤ a → Q (x__2a, .nums [a])) (h2 : ∀ a b, 0 ≤ a → 0 ≤ b → Q (x__2a, .nums [a, b]))
    (hv : ∀ s ∈ sgnT, ∀ v, WellV v → Q (s, .ver v)) : Q p := by
  obtain ⟨s, o⟩ := p
  rcases h with ⟨rfl, xs, rfl, hl, hp⟩ | ⟨hs, v, rfl, hw⟩
  · match xs, hl, hp with
    | [], _, _ => exact h0
    | [a], _, hp => exact h1 a (hp a (by simp))
    | [a, b], _, hp => exact h2 a b (hp a (by simp)) (hp b (by simp))
    | _ :: _ :: _ :: _, hl, _ => simp at hl
  · exact hv s hs v hw
theorem sgn_cases {s : Tx} (h : s ∈ sgnT) {Q : Tx → Prop} (h1 : Q x__3c) (h2 : Q x__3c_3d) (h3 : Q x__3d) (h4 : Q x__3e) (h5 : Q x__3e_3d) (h6 : Q x__5e) (h7 : Q x__7e) : Q s := by
  simp only [sgnT, List.mem_cons, List.not_mem_nil, or_false] at h
  rcases h with rfl | rfl | rfl | rfl | rfl | rfl | rfl <;> assumption
theorem t_stepped_major (n : Num) : t_stepped n x_major = some (majorN n) := by
  unfold t_stepped
  simp (config := {decide := true}) only [bnd_ret, if_true]
  rfl
theorem t_stepped_minor (n : Num) : t_stepped n x_minor = some (minorN n) := by
  unfold t_stepped
  simp (config := {decide := true}) only [bnd_ret, if_true, if_false]
  rfl
theorem t_stepped_patch (n : Num) : t_stepped n x_patch = some (raisedN n) := by
  unfold t_stepped
  simp (config := {decide := true}) only [bnd_ret, if_true, if_false]
  rfl
theorem t_ceiling_eq (n : Num) : t_ceiling n = some (ceilN n) := by
  unfold t_ceiling ceilN
  by_cases h : 0 < n.1
  · simp only [bnd_ret, bnd_ret_r, bnd_assoc, lift_some, run_ret, ite_ret, bool_and, bool_or, mapT_ret, filT_ret, flatT_ret, filT_id, mapT_id, outT_inr, outT_inl, fit0, fit1, fit2, fit3, fit4, fit5, fit6, fit7, fit8, fit9, fit10, fit11, fit12, t_stepped_major, ltI, h, decide_true, if_true]
  · by_cases h2 : 0 < n.2.1
    · simp only [bnd_ret, bnd_ret_r, bnd_assoc, lift_some, run_ret, ite_ret, bool_and, bool_or, mapT_ret, filT_ret, flatT_ret, filT_id, mapT_id, outT_inr, outT_inl, fit0, fit1, fit2, fit3, fit4, fit5, fit6, fit7, fit8, fit9, fit10, fit11, fit12, t_stepped_minor, ltI, h, h2, decide_true, decide_false, if_true, if_false, Bool.false_eq_true]
    · simp only [bnd_ret, bnd_ret_r, bnd_assoc, lift_some, run_ret, ite_ret, bool_and, bool_or, mapT_ret, filT_ret, flatT_ret, filT_id, mapT_id, outT_inr, outT_inl, fit0, fit1, fit2, fit3, fit4, fit5, fit6, fit7, fit8, fit9, fit10, fit11, fit12, t_stepped_patch, ltI, h, h2, decide_true, decide_false, if_true, if_false, Bool.false_eq_true]
theorem t_star_0 : t_star_bounds [] = some (starB []) := by rfl
theorem t_star_1 (a : Int) : t_star_bounds [a] = some (starB [a]) := by
  unfold t_star_bounds
  simp only [bnd_ret, bnd_ret_r, bnd_assoc, lift_some, run_ret, ite_ret, bool_and, bool_or, mapT_ret, filT_ret, flatT_ret, filT_id, mapT_id, outT_inr, outT_inl, fit0, fit1, fit2, fit3, fit4, fit5, fit6, fit7, fit8, fit9, fit10, fit11, fit12, List.singleton_append, List.cons_append, List.nil_append, List.length_cons, List.length_nil]
  simp (config := {decide := true}) only [bnd_ret, if_true, if_false, lift_some, cutT, asNum, List.take, t_stepped_major]
  rfl
theorem t_star_2 (a b : Int) : t_star_bounds [a, b] = some (starB [a, b]) := by
  unfold t_star_bounds
  simp only [bnd_ret, bnd_ret_r, bnd_assoc, lift_some, run_ret, ite_ret, bool_and, bool_or, mapT_ret, filT_ret, flatT_ret, filT_id, mapT_id, outT_inr, outT_inl, fit0, fit1, fit2, fit3, fit4, fit5, fit6, fit7, fit8, fit9, fit10, fit11, fit12, List.singleton_append, List.cons_append, List.nil_append, List.length_cons, List.length_nil]
  simp (config := {decide := true}) only [bnd_ret, if_true, if_false, lift_some, cutT, asNum, List.take, t_stepped_minor]
  rfl
theorem t_part_bounds_eq {p : Part} (h : PartOk p) : t_part_bounds p = some (partB p) := by
  refine h.cases (Q := fun p => t_part_bounds p = some (partB p)) ?_ (fun a ha => ?_) (fun a b ha hb => ?_) fun s hs v hw => ?_
  · rfl
  · unfold t_part_bounds
    simp (config := {decide := true}) only [bnd_ret, if_true, if_false, lift_some, asNums, t_star_1]
    rfl
  · unfold t_part_bounds
    simp (config := {decide := true}) only [bnd_ret, if_true, if_false, lift_some, asNums, t_star_2]
    rfl
  · have hl : v.2.length < big := Nat.lt_of_le_of_lt hw.2.2 (by decide)
    refine sgn_cases (Q := fun s => t_part_bounds (s, .ver v) = some (partB (s, .ver v))) hs ?_ ?_ ?_ ?_ ?_ ?_ ?_ <;>
    · unfold t_part_bounds
      simp (config := {decide := true}) only [bnd_ret, if_true, if_false, lift_some, asVer, fit0, fit1, fit2, t_next_version_eq v hl, t_ceiling_eq, t_stepped_minor]
      rfl
/-! ### bounds -/
def maxV (a b : Ver) : Ver := if vlt a b then b else a
def minH (a : Option Ver) (b : Option Ver) : Option Ver := match a with
  | none => b
  | some x => match b with
    | none => some x
    | some y => if vlt y x then some y else some x
theorem minH_some (x y : Ver) : minH (some x) (some y) = if vlt y x = true then some y else some x := rfl
def boundsB (ps : List Part) : Ver × Option Ver := ps.foldl (fun s p => (maxV s.1 (partB p).1, minH s.2 (partB p).2)) (c_FIRST, none)
theorem t_bounds_eq {ps : List Part} (h : ∀ p ∈ ps, PartOk p) : t_bounds ps = some (boundsB ps) := by
  unfold t_bounds
  simp only [bnd_ret, bnd_ret_r, bnd_assoc, lift_some, run_ret, ite_ret, bool_and, bool_or, mapT_ret, filT_ret, flatT_ret, filT_id, mapT_id, outT_inr, outT_inl, fit0, fit1, fit2, fit3, fit4, fit5, fit6, fit7, fit8, fit9, fit10, fit11, fit12]
  rw [foldT_of (g := fun s p => (maxV s.1 (partB p).1, minH s.2 (partB p).2)) (fun _ => True) _ _ trivial]
  · rfl
  · intro s _ p hp
    refine ⟨?_, trivial⟩
    simp only [bnd_ret, bnd_ret_r, bnd_assoc, lift_some, run_ret, ite_ret, bool_and, bool_or, mapT_ret, filT_ret, flatT_ret, filT_id, mapT_id, outT_inr, outT_inl, fit0, fit1, fit2, fit3, fit4, fit5, fit6, fit7, fit8, fit9, fit10, fit11, fit12, t_part_bounds_eq (h p hp), t_before_eq]
    obtain ⟨a, b⟩ := s
    cases b with
    | none => simp only [Option.isNone, if_true, bnd_ret]; rfl
    | some x =>
      cases hb : (partB p).2 with
      | none => simp only [hb, Option.isNone, Bool.false_eq_true, if_false, bnd_ret, Bool.not_true]; rfl
      | some y =>
        simp only [hb, Option.isNone, Bool.false_eq_true, if_false, bnd_ret, Bool.not_false, if_true, lift_some, t_before_eq]
        rw [minH_some]
        unfold maxV
        cases vlt y x <;> rfl
/-- from low on, ahead of high -/
def betw (v low : Ver) (high : Option Ver) : Bool := !vlt v low && (match high with
  | none => true
  | some h => vlt v h)
theorem t_is_between_eq (v low : Ver) (high : Option Ver) : t_is_between v low high = some (betw v low high) := by
  unfold t_is_between
  cases high with
  | none =>
    simp only [bnd_ret, bnd_ret_r, bnd_assoc, lift_some, run_ret, ite_ret, bool_and, bool_or, mapT_ret, filT_ret, flatT_ret, filT_id, mapT_id, outT_inr, outT_inl, fit0, fit1, fit2, fit3, fit4, fit5, fit6, fit7, fit8, fit9, fit10, fit11, fit12, t_key_eq, t_before_eq, Option.isNone]
    show run (if (!vlt v low) = true then _ else _) = some (!vlt v low && true)
    cases vlt v low <;> rfl
  | some h =>
    simp only [bnd_ret, bnd_ret_r, bnd_assoc, lift_some, run_ret, ite_ret, bool_and, bool_or, mapT_ret, filT_ret, flatT_ret, filT_id, mapT_id, outT_inr, outT_inl, fit0, fit1, fit2, fit3, fit4, fit5, fit6, fit7, fit8, fit9, fit10, fit11, fit12, t_key_eq, t_before_eq, Option.isNone]
    show some (if (!vlt v low) = true then _ else _) = some (!vlt v low && vlt v h)
    cases vlt v low <;> rfl
theorem ltV_ge {a b v : Ver} : (!vlt v (maxV a b)) = (!vlt v a && !vlt v b) := by
  unfold maxV
  cases hab : vlt a b with
  | true =>
    simp only [if_true]
    cases hvb : vlt v b with
    | true => simp
    | false =>
      cases hva : vlt v a with
      | false => rfl
      | true => rw [LinO.tr (l := vlt) hva hab] at hvb; cases hvb
  | false =>
    simp only [Bool.false_eq_true, if_false]
    cases hva : vlt v a with
    | true => simp
    | false =>
      cases hvb : vlt v b with
      | false => rfl
      | true =>
        exfalso
        by_cases e : a = b
        · rw [e, hvb] at hva; cases hva
        · cases hba : vlt b a with
          | true => rw [LinO.tr (l := vlt) hvb hba] at hva; cases hva
          | false => exact e (LinO.tot (l := vlt) hab hba)
theorem ltV_lt {x y v : Ver} : vlt v (if vlt y x then y else x) = (vlt v x && vlt v y) := by
  cases hyx : vlt y x with
  | true =>
    simp only [if_true]
    cases hvy : vlt v y with
    | false => simp
    | true => rw [LinO.tr (l := vlt) hvy hyx]; rfl
  | false =>
    simp only [Bool.false_eq_true, if_false]
    cases hvx : vlt v x with
    | false => simp
    | true =>
      cases hvy : vlt v y with
      | true => rfl
      | false =>
        exfalso
        by_cases e : x = y
        · rw [← e, hvx] at hvy; cases hvy
        · cases hxy : vlt x y with
          | true => rw [LinO.tr (l := vlt) hvx hxy] at hvy; cases hvy
          | false => exact e (LinO.tot (l := vlt) hxy hyx)
theorem betw_both {v a b : Ver} {x y : Option Ver} : betw v (maxV a b) (minH x y) = (betw v a x && betw v b y) := by
  unfold betw
  rw [ltV_ge]
  cases x with
  | none => cases y <;> simp [minH, Bool.and_assoc]
  | some x => cases y with
    | none =>
      simp only [minH]
      cases vlt v a <;> cases vlt v b <;> cases vlt v x <;> rfl
    | some y =>
      have : minH (some x) (some y) = some (if vlt y x then y else x) := by
        show (if vlt y x = true then some y else some x) = _
        cases vlt y x <;> rfl
      rw [this]
      simp only [ltV_lt]
      cases vlt v a <;> cases vlt v b <;> cases vlt v x <;> cases vlt v y <;> rfl
def concB (v : Ver) (p : Part) : Bool := betw v (partB p).1 (partB p).2
theorem bounds_fold (v : Ver) : ∀ (ps : List Part) (s : Ver × Option Ver), betw v (ps.foldl (fun s p => (maxV s.1 (partB p).1, minH s.2 (partB p).2)) s).1 (ps.foldl (fun s p => (maxV s.1 (partB p).1, minH s.2 (partB p).2)) s).2 = (betw v s.1 s.2 && ps.all (concB v))
  | [], s => by simp
  | p :: ps, s => by
    rw [List.foldl_cons, bounds_fold v ps, betw_both, List.all_cons, Bool.and_assoc]
    rfl
/-! ### the first version -/
theorem first_least {v : Ver} (h : WellV v) : vlt v c_FIRST = false := by
  obtain ⟨⟨h1, h2, h3⟩, hi, _⟩ := h
  by_cases e : v.1 = c_FIRST.1
  · rw [vlt_same e]
    by_cases e2 : v.2 = []
    · rw [if_pos e2]
    · rw [if_neg e2, if_neg (by decide)]
      obtain ⟨n, xs⟩ := v
      cases xs with
      | nil => exact absurd rfl e2
      | cons x xs =>
        have hx := hi x List.mem_cons_self
        show ltL ltK3 (itemKey x :: xs.map itemKey) [itemKey (.num 0)] = false
        rw [ltL]
        split
        · cases xs <;> simp [ltL]
        · exact hx
  · rw [vlt_num e]
    obtain ⟨⟨a, b, c⟩, xs⟩ := v
    simp only at h1 h2 h3
    simp only [lt3, ltI]
    by_cases ha : a = 0
    · by_cases hb : b = 0
      · have : ¬ c < 0 := by omega
        simp [ha, hb, this]
      · have : ¬ b < 0 := by omega
        simp [ha, hb, this]
    · have : ¬ a < 0 := by omega
      simp [ha, this]
theorem bounds_betw {v : Ver} (h : WellV v) (ps : List Part) : betw v (boundsB ps).1 (boundsB ps).2 = ps.all (concB v) := by
  unfold boundsB
  rw [bounds_fold]
  have : betw v c_FIRST none = true := by
    unfold betw
    rw [first_least h]
    rfl
  rw [this, Bool.true_and]
/-! ### the forerunners that are named -/
def namesB (ps : List Part) : List Num := (ps.filter fun p => match p.2 with
  | .ver v => !decide (p.1 = x__2a) && !decide (v.2 = [])
  | _ => false).map fun p => match p.2 with
  | .ver v => v.1
  | _ => (0, 0, 0)
theorem names_filT {ps : List Part} (h : ∀ p ∈ ps, PartOk p) : filT (fun x1 : Part => bnd (ret (!decide (x1.1 = x__2a))) fun c => if c = true then bnd (lift (asVer x1.2)) fun x => ret (!decide (x.2 = ([] : List Item))) else ret false) (fun x1 => bnd (lift (asVer x1.2)) fun x => ret x.1) ps = ret (namesB ps) := by
  unfold namesB
  refine filT_of (q := fun p : Part => match p.2 with
    | .ver v => !decide (p.1 = x__2a) && !decide (v.2 = [])
    | _ => false) (g := fun p : Part => match p.2 with
    | .ver v => v.1
    | _ => (0, 0, 0)) ps (fun p hp => ?_) fun p hp hq => ?_
  · have := h p hp
    rcases this with ⟨h1, xs, h2, _⟩ | ⟨h1, v, h2, _⟩
    · obtain ⟨s, o⟩ := p
      simp only at h1 h2
      subst h1 h2
      rfl
    · obtain ⟨s, o⟩ := p
      simp only at h1 h2
      subst h2
      simp only [asVer, lift_some, bnd_ret]
      cases decide (s = x__2a) <;> rfl
  · obtain ⟨s, o⟩ := p
    cases o with
    | nums xs => cases hq
    | ver v => rfl
theorem mem_dedT {α : Type} [DecidableEq α] : ∀ {xs acc : List α} {x : α}, x ∈ dedT acc xs ↔ x ∈ acc ∨ x ∈ xs
  | [], acc, x => by simp [dedT]
  | y :: r, acc, x => by
    rw [dedT]
    split
    · rename_i h
      rw [mem_dedT, List.mem_cons]
      constructor
      · rintro (h1 | h1)
        · exact .inl h1
        · exact .inr (.inr h1)
      · rintro (h1 | rfl | h1)
        · exact .inl h1
        · exact .inl h
        · exact .inr h1
    · rw [mem_dedT]
      simp [or_assoc]
theorem dedT_len {α : Type} [DecidableEq α] : ∀ (xs acc : List α), (dedT acc xs).length ≤ acc.length + xs.length
  | [], acc => by simp [dedT]
  | y :: r, acc => by
    rw [dedT]
    split
    · have := dedT_len r acc
      simp only [List.length_cons]
      omega
    · have := dedT_len r (acc ++ [y])
      simp only [List.length_cons, List.length_append, List.length_nil] at this ⊢
      omega
theorem ssetT_some {xs : List Num} (h : ∀ x ∈ xs, NnN x) (hl : (dedT [] xs).length ≤ 62) : ∃ ys, ssetT xs = some ys ∧ ∀ x, x ∈ ys ↔ x ∈ xs := by
  unfold ssetT
  rw [if_pos ⟨h, hl⟩]
  exact ⟨_, rfl, fun x => by rw [(List.mergeSort_perm _ _).mem_iff, mem_dedT]; simp⟩
theorem namesB_nn {ps : List Part} (h : ∀ p ∈ ps, PartOk p) : ∀ n ∈ namesB ps, NnN n := by
  intro n hn
  obtain ⟨p, hp, rfl⟩ := List.mem_map.mp hn
  obtain ⟨hp, hq⟩ := List.mem_filter.mp hp
  rcases h p hp with ⟨h1, xs, h2, _⟩ | ⟨h1, v, h2, hw⟩
  · rw [h2] at hq; cases hq
  · rw [h2]
    exact hw.1
theorem t_named_some {ps : List Part} (h : ∀ p ∈ ps, PartOk p) (hl : ps.length ≤ 62) : ∃ ys, t_named ps = some ys ∧ ∀ x, x ∈ ys ↔ x ∈ namesB ps := by
  have hd : (dedT [] (namesB ps)).length ≤ 62 := by
    have h1 := dedT_len (namesB ps) []
    have h2 : (namesB ps).length ≤ ps.length := by
      unfold namesB
      rw [List.length_map]
      exact List.length_filter_le _ _
    simp only [List.length_nil] at h1
    omega
  obtain ⟨ys, h1, h2⟩ := ssetT_some (namesB_nn h) hd
  refine ⟨ys, ?_, h2⟩
  unfold t_named
  simp only [bnd_ret, bnd_ret_r, bnd_assoc, lift_some, run_ret, ite_ret, bool_and, bool_or, mapT_ret, filT_ret, flatT_ret, filT_id, mapT_id, outT_inr, outT_inl, fit0, fit1, fit2, fit3, fit4, fit5, fit6, fit7, fit8, fit9, fit10, fit11, fit12]
  have e := names_filT h
  simp only [bnd_ret, bnd_ret_r, bnd_assoc, lift_some, run_ret, ite_ret, bool_and, bool_or, mapT_ret, filT_ret, flatT_ret, filT_id, mapT_id, outT_inr, outT_inl, fit0, fit1, fit2, fit3, fit4, fit5, fit6, fit7, fit8, fit9, fit10, fit11, fit12, ] at e
  rw [e]
  simp only [bnd_ret, bnd_ret_r, bnd_assoc, lift_some, run_ret, ite_ret, bool_and, bool_or, mapT_ret, filT_ret, flatT_ret, filT_id, mapT_id, outT_inr, outT_inl, fit0, fit1, fit2, fit3, fit4, fit5, fit6, fit7, fit8, fit9, fit10, fit11, fit12, h1]
/-! ### what is allowed -/
theorem forT_any {α ω : Type} {f : Unit → α → M (ω ⊕ Unit)} {p : α → Bool} {y : ω} : ∀ (xs : List α), (∀ x ∈ xs, f () x = ret (if p x then .inl y else .inr ())) → forT f xs () = ret (if xs.any p then .inl y else .inr ())
  | [], _ => rfl
  | x :: xs, h => by
    rw [forT, h x List.mem_cons_self, bnd_ret, List.any_cons]
    cases hp : p x with
    | true => rfl
    | false => simp only [Bool.false_eq_true, if_false, Bool.false_or]; exact forT_any xs fun z hz => h z (List.mem_cons_of_mem _ hz)
def RangeOk (r : Range) : Prop := (∀ ps ∈ r, ps.length ≤ 4 ∧ ∀ p ∈ ps, PartOk p) ∧ r.length ≤ 4
def allowB (r : Range) (v : Ver) (plain : Bool) : Bool := r.any fun ps => ps.all (concB v) && (decide (v.2 = []) || plain || decide (v.1 ∈ namesB ps))
theorem t_allows_eq {r : Range} (hr : RangeOk r) {v : Ver} (hv : WellV v) (rule : Tx) : t_allows r v rule = some (allowB r v (decide (rule = x_plain))) := by
  unfold t_allows
  simp only [bnd_ret, bnd_ret_r, bnd_assoc, lift_some, run_ret, ite_ret, bool_and, bool_or, mapT_ret, filT_ret, flatT_ret, filT_id, mapT_id, outT_inr, outT_inl, fit0, fit1, fit2, fit3, fit4, fit5, fit6, fit7, fit8, fit9, fit10, fit11, fit12]
  rw [forT_any (p := fun ps => ps.all (concB v) && (decide (v.2 = []) || decide (rule = x_plain) || decide (v.1 ∈ namesB ps))) (y := true)]
  · simp only [bnd_ret, bnd_ret_r, bnd_assoc, lift_some, run_ret, ite_ret, bool_and, bool_or, mapT_ret, filT_ret, flatT_ret, filT_id, mapT_id, outT_inr, outT_inl, fit0, fit1, fit2, fit3, fit4, fit5, fit6, fit7, fit8, fit9, fit10, fit11, fit12]
    unfold allowB
    cases (r.any fun ps => ps.all (concB v) && (decide (v.2 = []) || decide (rule = x_plain) || decide (v.1 ∈ namesB ps))) <;> rfl
  · intro ps hps
    obtain ⟨h1, h2⟩ := hr.1 ps hps
    obtain ⟨ys, h3, h4⟩ := t_named_some h2 (by omega)
    simp only [bnd_ret, bnd_ret_r, bnd_assoc, lift_some, run_ret, ite_ret, bool_and, bool_or, mapT_ret, filT_ret, flatT_ret, filT_id, mapT_id, outT_inr, outT_inl, fit0, fit1, fit2, fit3, fit4, fit5, fit6, fit7, fit8, fit9, fit10, fit11, fit12, t_bounds_eq h2, t_is_between_eq, bounds_betw hv, h3]
    have hm : memT v.1 ys = decide (v.1 ∈ namesB ps) := by
      unfold memT
      exact Bool.eq_iff_iff.mpr (by simp [h4])
    rw [hm]
    cases ps.all (concB v) <;> cases decide (v.2 = []) <;> cases decide (rule = x_plain) <;> cases decide (v.1 ∈ namesB ps) <;> rfl
/-! ### .. by the law -/
theorem lawKey_inj {v w : Ver} (h : lawKey v = lawKey w) : v = w := by
  refine LinO.tot (l := vlt) ?_ ?_
  · rw [← lawlt_eq]; unfold lawlt; rw [h]; exact LinO.irr (l := ltP ltN (ltL ltK3)) _
  · rw [← lawlt_eq]; unfold lawlt; rw [h]; exact LinO.irr (l := ltP ltN (ltL ltK3)) _
theorem lawKey_dec (v w : Ver) : decide (lawKey v = lawKey w) = decide (v = w) := Bool.eq_iff_iff.mpr (by
  rw [decide_eq_true_iff, decide_eq_true_iff]
  exact ⟨lawKey_inj, fun h => by rw [h]⟩)
theorem lawKey_lt (v w : Ver) : ltP (lt3 ltI ltI ltI) (ltL (lt3 ltI ltI ltB)) (lawKey v) (lawKey w) = vlt v w := lawlt_eq v w
theorem next_lt {v w : Ver} (h : NnItems v) : vlt v (nextV w) = !vlt w v := by
  cases k : vlt w v with
  | true =>
    cases j : vlt v (nextV w) with
    | false => rfl
    | true => exact (nextV_between h k j).elim
  | false =>
    cases j : vlt v w with
    | true => exact LinO.tr (l := vlt) j (nextV_after w)
    | false =>
      rw [LinO.tot (l := vlt) j k]
      exact nextV_after w
theorem eq_lt {v w : Ver} : decide (v = w) = (!vlt v w && !vlt w v) := by
  have := vlt_three (v := v) (w := w)
  cases h : decide (v = w) <;> rw [h] at this <;> cases h1 : vlt v w <;> rw [h1] at this <;> cases h2 : vlt w v <;> rw [h2] at this <;> first | rfl | cases this
theorem t__law_top_star (a : Int) : t__law_top x__2a [a] = some (a + 1, 0, 0) := by
  unfold t__law_top
  simp (config := {decide := true}) only [bnd_ret, if_true, if_false, lift_some, List.length_cons, List.length_nil, show atT [a] 0 = some a from rfl]
  rfl
theorem t__law_top_star2 (a b : Int) : t__law_top x__2a [a, b] = some (a, b + 1, 0) := by
  unfold t__law_top
  simp (config := {decide := true}) only [bnd_ret, if_true, if_false, lift_some, List.length_cons, List.length_nil, show atT [a, b] 0 = some a from rfl, show atT [a, b] 1 = some b from rfl, fit2]
  rfl
theorem t__law_top_tilde (n : Num) : t__law_top x__7e (numL n) = some (minorN n) := by
  unfold t__law_top
  simp (config := {decide := true}) only [bnd_ret, if_true, if_false, lift_some, show atT (numL n) 0 = some n.1 from rfl, show atT (numL n) 1 = some n.2.1 from rfl, fit2]
  rfl
theorem t__law_top_caret (n : Num) : t__law_top x__5e (numL n) = some (ceilN n) := by
  unfold t__law_top ceilN
  by_cases h : 0 < n.1
  · simp (config := {decide := true}) only [bnd_ret, if_true, if_false, lift_some, ltI, h, show atT (numL n) 0 = some n.1 from rfl, show atT (numL n) 1 = some n.2.1 from rfl, fit2]
    rfl
  · by_cases h2 : 0 < n.2.1
    · simp (config := {decide := true}) only [bnd_ret, if_true, if_false, lift_some, ltI, h, h2, show atT (numL n) 0 = some n.1 from rfl, show atT (numL n) 1 = some n.2.1 from rfl, fit2]
      rfl
    · simp (config := {decide := true}) only [bnd_ret, if_true, if_false, lift_some, ltI, h, h2, show atT (numL n) 0 = some n.1 from rfl, show atT (numL n) 1 = some n.2.1 from rfl, fit2, show asNum (numL n) = some n from rfl, t__law_more_eq]
      rfl
theorem cut3_0 : asNum (cutT [0, 0, 0] 3) = some (0, 0, 0) := rfl
theorem cut3_1 (a : Int) : asNum (cutT [a, 0, 0, 0] 3) = some (a, 0, 0) := rfl
theorem cut3_2 (a b : Int) : asNum (cutT [a, b, 0, 0, 0] 3) = some (a, b, 0) := rfl
theorem t__law_concerns_eq {p : Part} (h : PartOk p) {v : Ver} (hv : WellV v) : t__law_concerns p v = some (concB v p) := by
  refine h.cases (Q := fun p => t__law_concerns p v = some (concB v p)) ?_ (fun a ha => ?_) (fun a b ha hb => ?_) fun s hs w hw => ?_
  · unfold t__law_concerns
    simp (config := {decide := true}) only [bnd_ret, if_true, if_false, lift_some, asNums, t__law_key_eq, fit0, fit3, catT, List.length_nil, List.length_cons, big, List.nil_append, cut3_0, lawKey_lt]
    show run (if vlt v ((0, 0, 0), []) = true then _ else _) = some (!vlt v ((0, 0, 0), []) && true)
    cases vlt v ((0, 0, 0), []) <;> rfl
  · unfold t__law_concerns
    simp (config := {decide := true}) only [bnd_ret, if_true, if_false, lift_some, asNums, t__law_key_eq, fit0, fit1, fit3, catT, List.length_nil, List.length_cons, big, List.nil_append, List.cons_append, cut3_1, lawKey_lt, t__law_top_star]
    show run (if vlt v ((a, 0, 0), []) = true then _ else _) = some (!vlt v ((a, 0, 0), []) && vlt v (tailN (a + 1, 0, 0)))
    cases vlt v ((a, 0, 0), []) <;> rfl
  · unfold t__law_concerns
    simp (config := {decide := true}) only [bnd_ret, if_true, if_false, lift_some, asNums, t__law_key_eq, fit0, fit1, fit3, catT, List.length_nil, List.length_cons, big, List.nil_append, List.cons_append, cut3_2, lawKey_lt, t__law_top_star2]
    show run (if vlt v ((a, b, 0), []) = true then _ else _) = some (!vlt v ((a, b, 0), []) && vlt v (tailN (a, b + 1, 0)))
    cases vlt v ((a, b, 0), []) <;> rfl
  · have e1 : ∀ s : Tx, concB v (s, .ver w) = betw v (verB s w).1 (verB s w).2 := fun _ => rfl
    refine sgn_cases (Q := fun s => t__law_concerns (s, .ver w) v = some (concB v (s, .ver w))) hs ?_ ?_ ?_ ?_ ?_ ?_ ?_ <;>
    · unfold t__law_concerns
      simp (config := {decide := true}) only [bnd_ret, if_true, if_false, lift_some, asVer, t__law_key_eq, fit0, fit1, fit2, lawKey_lt, lawKey_dec, t__law_top_caret, t__law_top_tilde, memT, dcT, List.zip, List.zipWith, List.find?, Option.map, e1, verB, betw, first_least hv, next_lt hv.2.1, eq_lt]
      first
        | rfl
        | (cases vlt v w <;> cases vlt w v <;> rfl)
        | (cases vlt v w <;> rfl)
theorem t__law_allowed_eq {r : Range} (hr : RangeOk r) {v : Ver} (hv : WellV v) (rule : Tx) : t__law_allowed r v rule = some (allowB r v (decide (rule = x_plain))) := by
  unfold t__law_allowed
  simp only [bnd_ret, bnd_ret_r, bnd_assoc, lift_some, run_ret, ite_ret, bool_and, bool_or, mapT_ret, filT_ret, flatT_ret, filT_id, mapT_id, outT_inr, outT_inl, fit0, fit1, fit2, fit3, fit4, fit5, fit6, fit7, fit8, fit9, fit10, fit11, fit12]
  rw [forT_any (p := fun ps => ps.all (concB v) && (decide (v.2 = []) || decide (rule = x_plain) || decide (v.1 ∈ namesB ps))) (y := true)]
  · simp only [bnd_ret, bnd_ret_r, bnd_assoc, lift_some, run_ret, ite_ret, bool_and, bool_or, mapT_ret, filT_ret, flatT_ret, filT_id, mapT_id, outT_inr, outT_inl, fit0, fit1, fit2, fit3, fit4, fit5, fit6, fit7, fit8, fit9, fit10, fit11, fit12]
    unfold allowB
    cases (r.any fun ps => ps.all (concB v) && (decide (v.2 = []) || decide (rule = x_plain) || decide (v.1 ∈ namesB ps))) <;> rfl
  · intro ps hps
    obtain ⟨h1, h2⟩ := hr.1 ps hps
    rw [filT_of (q := fun p => !concB v p) (g := fun p => p) ps (fun p hp => by simp only [bnd_ret, bnd_ret_r, bnd_assoc, lift_some, run_ret, ite_ret, bool_and, bool_or, mapT_ret, filT_ret, flatT_ret, filT_id, mapT_id, outT_inr, outT_inl, fit0, fit1, fit2, fit3, fit4, fit5, fit6, fit7, fit8, fit9, fit10, fit11, fit12, t__law_concerns_eq (h2 p hp) hv]) fun p hp _ => rfl]
    rw [filT_of (q := fun p : Part => match p.2 with
      | .ver w => !decide (p.1 = x__2a) && !decide (w.2 = []) && decide (w.1 = v.1)
      | _ => false) (g := fun p => p) ps (fun p hp => by
        rcases h2 p hp with ⟨h3, xs, h4, _⟩ | ⟨h3, w, h4, _⟩
        · obtain ⟨s, o⟩ := p
          simp only at h3 h4
          subst h3 h4
          rfl
        · obtain ⟨s, o⟩ := p
          simp only at h3 h4
          subst h4
          simp only [bnd_ret, asVer, lift_some, fit0]
          cases decide (s = x__2a) <;> cases decide (w.2 = []) <;> rfl) fun p hp _ => rfl]
    simp only [bnd_ret, bnd_ret_r, bnd_assoc, lift_some, run_ret, ite_ret, bool_and, bool_or, mapT_ret, filT_ret, flatT_ret, filT_id, mapT_id, outT_inr, outT_inl, fit0, fit1, fit2, fit3, fit4, fit5, fit6, fit7, fit8, fit9, fit10, fit11, fit12]
    have e1 : decide ((ps.filter fun p => !concB v p).map (fun p => p) = []) = ps.all (concB v) := by
      rw [List.map_id']
      exact Bool.eq_iff_iff.mpr (by simp [List.filter_eq_nil_iff])
    have e2 : (!decide ((ps.filter fun p : Part => match p.2 with
      | .ver w => !decide (p.1 = x__2a) && !decide (w.2 = []) && decide (w.1 = v.1)
      | _ => false).map (fun p => p) = [])) = decide (v.1 ∈ namesB ps) := by
      rw [List.map_id']
      refine Bool.eq_iff_iff.mpr ?_
      rw [Bool.not_eq_true', decide_eq_false_iff_not, decide_eq_true_iff, List.filter_eq_nil_iff]
      unfold namesB
      constructor
      · intro h
        refine Classical.byContradiction fun hn => h fun p hp hq => hn ?_
        obtain ⟨s, o⟩ := p
        cases o with
        | nums xs => cases hq
        | ver w =>
          simp only [Bool.and_eq_true, decide_eq_true_eq] at hq
          exact List.mem_map.mpr ⟨(s, .ver w), List.mem_filter.mpr ⟨hp, by simpa using hq.1⟩, hq.2⟩
      · intro h k
        obtain ⟨p, hp, e⟩ := List.mem_map.mp h
        obtain ⟨hp, hq⟩ := List.mem_filter.mp hp
        obtain ⟨s, o⟩ := p
        cases o with
        | nums xs => cases hq
        | ver w =>
          refine k _ hp ?_
          simp only [Bool.and_eq_true, decide_eq_true_eq]
          exact ⟨by simpa using hq, e⟩
    rw [e1, e2]
    cases ps.all (concB v) <;> cases decide (v.2 = []) <;> cases decide (rule = x_plain) <;> cases decide (v.1 ∈ namesB ps) <;> rfl
/-! ### drawn ranges -/
def PartIn (most : Int) (p : Part) : Prop := (p.1 = x__2a ∧ ∃ xs, p.2 = .nums xs ∧ xs.length ≤ 2 ∧ ∀ i ∈ xs, 0 ≤ i ∧ i ≤ most) ∨ (p.1 ∈ sgnT ∧ ∃ v, p.2 = .ver v ∧ VerOk most v)
def RangeIn (most : Int) (r : Range) : Prop := (∀ ps ∈ r, ps.length ≤ 3 ∧ ∀ p ∈ ps, PartIn most p) ∧ 1 ≤ r.length ∧ r.length ≤ 3
theorem VerOk.well {most : Int} {v : Ver} (h : VerOk most v) : WellV v := ⟨⟨h.1.1.1, h.1.2.1.1, h.1.2.2.1⟩, h.good.2, by have := h.2.1; omega⟩
theorem PartIn.ok {most : Int} {p : Part} (h : PartIn most p) : PartOk p := by
  rcases h with ⟨h1, xs, h2, h3, h4⟩ | ⟨h1, v, h2, h3⟩
  · exact .inl ⟨h1, xs, h2, h3, fun i hi => (h4 i hi).1⟩
  · exact .inr ⟨h1, v, h2, h3.well⟩
theorem RangeIn.ok {most : Int} {r : Range} (h : RangeIn most r) : RangeOk r := ⟨fun ps hps => ⟨by have := (h.1 ps hps).1; omega, fun p hp => ((h.1 ps hps).2 p hp).ok⟩, by have := h.2.2; omega⟩
theorem ok_part {t : Tape} (ht : Drawn t) {most : Int} (h0 : 0 ≤ most) (h1 : (most + 1).natAbs < 2 ^ 400) : Ok (t__law_part most) t fun p t' => PartIn most p ∧ Drawn t' := by
  unfold t__law_part
  simp only [bnd_ret, bnd_ret_r, bnd_assoc, lift_some, run_ret, ite_ret, bool_and, bool_or, mapT_ret, filT_ret, flatT_ret, filT_id, mapT_id, outT_inr, outT_inl, fit0, fit1, fit2, fit3, fit4, fit5, fit6, fit7, fit8, fit9, fit10, fit11, fit12, ok_bnd, ok_needT, ok_ret, ok_lift]
  refine ⟨ht.ne, ht.ne, (ok_draw ht (by decide) (by decide)).mono ?_⟩
  rintro a t1 ⟨a1, a2, h2⟩
  by_cases ha : a = 0
  · simp only [ha, decide_true, if_true]
    simp only [bnd_ret, bnd_ret_r, bnd_assoc, lift_some, run_ret, ite_ret, bool_and, bool_or, mapT_ret, filT_ret, flatT_ret, filT_id, mapT_id, outT_inr, outT_inl, fit0, fit1, fit2, fit3, fit4, fit5, fit6, fit7, fit8, fit9, fit10, fit11, fit12, ok_bnd, ok_needT, ok_ret, ok_lift]
    refine ⟨h2.ne, h2.ne, (ok_numbers h2 h0 h1).mono ?_⟩
    rintro n t2 ⟨hn, h3⟩
    refine ⟨h3.ne, h3.ne, (ok_draw h3 (by decide) (by decide)).mono ?_⟩
    rintro b t3 ⟨b1, b2, h4⟩
    refine ⟨.inl ⟨rfl, _, rfl, ?_, fun i hi => ?_⟩, h4⟩
    · unfold cutT
      rw [if_pos b1, List.length_take]
      omega
    · have := cutT_mem hi
      simp only [numL, List.mem_cons, List.not_mem_nil, or_false] at this
      rcases this with rfl | rfl | rfl
      · exact hn.1
      · exact hn.2.1
      · exact hn.2.2
  · simp only [ha, decide_false, Bool.false_eq_true, if_false]
    simp only [bnd_ret, bnd_ret_r, bnd_assoc, lift_some, run_ret, ite_ret, bool_and, bool_or, mapT_ret, filT_ret, flatT_ret, filT_id, mapT_id, outT_inr, outT_inl, fit0, fit1, fit2, fit3, fit4, fit5, fit6, fit7, fit8, fit9, fit10, fit11, fit12, ok_bnd, ok_needT, ok_ret, ok_lift]
    refine ⟨h2.ne, h2.ne, (ok_draw h2 (by decide) (by decide)).mono ?_⟩
    rintro b t2 ⟨b1, b2, h3⟩
    obtain ⟨s, es, hs⟩ := atT_get (xs := [x__3c, x__3c_3d, x__3d, x__3e, x__3e_3d, x__3e_3d, x__5e, x__7e, x__3c]) b1 (by simpa using b2)
    refine ⟨_, es, h3.ne, h3.ne, (ok_version h3 h0 h1).mono ?_⟩
    rintro v t3 ⟨hv, h4⟩
    refine ⟨.inr ⟨?_, v, rfl, hv⟩, h4⟩
    simp only [List.mem_cons, List.not_mem_nil, or_false] at hs
    simp only [sgnT, List.mem_cons, List.not_mem_nil, or_false]
    rcases hs with rfl | rfl | rfl | rfl | rfl | rfl | rfl | rfl | rfl <;> simp
theorem ok_range {t : Tape} (ht : Drawn t) {most : Int} (h0 : 0 ≤ most) (h1 : (most + 1).natAbs < 2 ^ 400) : Ok (t__law_range most) t fun r t' => RangeIn most r ∧ Drawn t' := by
  unfold t__law_range
  simp only [bnd_ret, bnd_ret_r, bnd_assoc, lift_some, run_ret, ite_ret, bool_and, bool_or, mapT_ret, filT_ret, flatT_ret, filT_id, mapT_id, outT_inr, outT_inl, fit0, fit1, fit2, fit3, fit4, fit5, fit6, fit7, fit8, fit9, fit10, fit11, fit12, ok_bnd, ok_needT, ok_ret, ok_lift]
  refine ⟨ht.ne, ht.ne, (ok_draw ht (by decide) (by decide)).mono ?_⟩
  rintro a t1 ⟨a1, a2, h2⟩
  obtain ⟨k, e, hk⟩ : ∃ k : Nat, 1 + a = k ∧ 1 ≤ k ∧ k ≤ 3 := ⟨(1 + a).toNat, by omega, by omega, by omega⟩
  rw [e]
  refine ⟨_, rangeT_ok (by simp only [big]; omega), ?_⟩
  refine (okT_foldN (fun i (s : Range) t => (s.length = i ∧ ∀ ps ∈ s, ps.length ≤ 3 ∧ ∀ p ∈ ps, PartIn most p) ∧ Drawn t) _ 0 _ _ ⟨⟨rfl, by simp⟩, h2⟩ fun x hx i s t hi hI => ?_).mono ?_
  · obtain ⟨⟨h3, h4⟩, h5⟩ := hI
    rw [List.length_map, List.length_range] at hi
    simp only [bnd_ret, bnd_ret_r, bnd_assoc, lift_some, run_ret, ite_ret, bool_and, bool_or, mapT_ret, filT_ret, flatT_ret, filT_id, mapT_id, outT_inr, outT_inl, fit0, fit1, fit2, fit3, fit4, fit5, fit6, fit7, fit8, fit9, fit10, fit11, fit12, ok_bnd, ok_needT, ok_ret, ok_lift]
    refine ⟨h5.ne, h5.ne, (ok_draw h5 (by decide) (by decide)).mono ?_⟩
    rintro b t2 ⟨b1, b2, h6⟩
    obtain ⟨m, em, hm⟩ := atT_get (xs := [(1 : Int), 1, 2, 2, 3, 0]) b1 (by simpa using b2)
    obtain ⟨j, rfl, hj⟩ : ∃ j : Nat, m = j ∧ j ≤ 3 := by
      simp only [List.mem_cons, List.not_mem_nil, or_false] at hm
      rcases hm with rfl | rfl | rfl | rfl | rfl | rfl <;> first | exact ⟨0, rfl, by decide⟩ | exact ⟨1, rfl, by decide⟩ | exact ⟨2, rfl, by decide⟩ | exact ⟨3, rfl, by decide⟩
    refine ⟨_, em, _, rangeT_ok (by simp only [big]; omega), ?_⟩
    refine (okT_foldN (fun i (ps : List Part) t => (ps.length = i ∧ ∀ p ∈ ps, PartIn most p) ∧ Drawn t) _ 0 _ _ ⟨⟨rfl, by simp⟩, h6⟩ fun y hy i' ps t hi' hI' => ?_).mono ?_
    · obtain ⟨⟨h7, h8⟩, h9⟩ := hI'
      rw [List.length_map, List.length_range] at hi'
      simp only [bnd_ret, bnd_ret_r, bnd_assoc, lift_some, run_ret, ite_ret, bool_and, bool_or, mapT_ret, filT_ret, flatT_ret, filT_id, mapT_id, outT_inr, outT_inl, fit0, fit1, fit2, fit3, fit4, fit5, fit6, fit7, fit8, fit9, fit10, fit11, fit12, ok_bnd, ok_needT, ok_ret, ok_lift]
      refine ⟨h9.ne, h9.ne, (ok_part h9 h0 h1).mono ?_⟩
      rintro p t3 ⟨hp, h10⟩
      refine ⟨_, catT_ok (by simp only [big, List.length_cons, List.length_nil]; omega), ⟨by simp [h7], fun q hq => ?_⟩, h10⟩
      rcases List.mem_append.mp hq with hq | hq
      · exact h8 q hq
      · rw [List.mem_singleton.mp hq]; exact hp
    · rintro ps t3 ⟨⟨h7, h8⟩, h9⟩
      rw [List.length_map, List.length_range] at h7
      refine ⟨_, catT_ok (by simp only [big, List.length_cons, List.length_nil]; omega), ⟨by simp [h3], fun q hq => ?_⟩, h9⟩
      rcases List.mem_append.mp hq with hq | hq
      · exact h4 q hq
      · rw [List.mem_singleton.mp hq]; exact ⟨by omega, h8⟩
  · rintro s t2 ⟨⟨h3, h4⟩, h5⟩
    rw [List.length_map, List.length_range] at h3
    exact ⟨⟨h4, by omega, by omega⟩, h5⟩
/-! ### all marks of a range -/
theorem foldT_app {α β : Type} {f : List β → α → M (List β)} {g : α → List β} {c B : Nat} : ∀ (xs : List α) (s : List β), (∀ x ∈ xs, ∀ s, s.length + c ≤ B → f s x = ret (s ++ g x)) → (∀ x ∈ xs, (g x).length ≤ c) → s.length + c * xs.length ≤ B → foldT f xs s = ret (s ++ xs.flatMap g)
  | [], s, _, _, _ => by simp [foldT]
  | x :: xs, s, h, hc, hl => by
    have hx := hc x List.mem_cons_self
    rw [List.length_cons, Nat.mul_succ] at hl
    rw [foldT, h x List.mem_cons_self s (by omega), bnd_ret, foldT_app (c := c) (B := B) xs (s ++ g x) (fun y hy => h y (List.mem_cons_of_mem _ hy)) (fun y hy => hc y (List.mem_cons_of_mem _ hy)) (by rw [List.length_append]; omega)]
    simp
def padN : List Int → Num
  | [] => (0, 0, 0)
  | [a] => (a, 0, 0)
  | [a, b] => (a, b, 0)
  | a :: b :: c :: _ => (a, b, c)
def markV (p : Part) : Ver := match p.2 with
  | .nums xs => (padN xs, [])
  | .ver v => v
def topsN (n : Num) : List Num := [n, raisedN n, minorN n, majorN n]
def partMarks (p : Part) : List Ver := [markV p, nextV (markV p)] ++ (topsN (markV p).1).flatMap fun t => [tailN t, (t, []), nextV (t, [])]
abbrev marks0 : List Ver := [tailN (0, 0, 0), ((0, 0, 0), []), tailN (0, 0, 1)]
def marksB (r : Range) : List Ver := marks0 ++ r.flatMap fun ps => ps.flatMap partMarks
theorem partMarks_len (p : Part) : (partMarks p).length = 14 := by simp [partMarks, topsN]
theorem flat_len {α β : Type} {f : α → List β} {c : Nat} : ∀ {xs : List α}, (∀ x ∈ xs, (f x).length ≤ c) → (xs.flatMap f).length ≤ c * xs.length
  | [], _ => by simp
  | x :: xs, h => by
    have h1 := flat_len (xs := xs) fun y hy => h y (List.mem_cons_of_mem _ hy)
    have h2 := h x List.mem_cons_self
    rw [List.flatMap_cons, List.length_append, List.length_cons, Nat.mul_succ]
    omega
theorem mark_nums {p : Part} (h : PartOk p) : ((p.1 = x__2a ∧ ∃ xs, p.2 = .nums xs ∧ catT xs [0, 0, 0] = some (xs ++ [0, 0, 0]) ∧ asNum (cutT (xs ++ [0, 0, 0]) 3) = some (padN xs))) ∨ ∃ v, p.1 ≠ x__2a ∧ p.2 = .ver v ∧ WellV v := by
  rcases h with ⟨h1, xs, h2, h3, _⟩ | ⟨h1, v, h2, hw⟩
  · refine .inl ⟨h1, xs, h2, catT_ok (by simp only [big, List.length_cons, List.length_nil]; omega), ?_⟩
    match xs, h3 with
    | [], _ => rfl
    | [a], _ => rfl
    | [a, b], _ => rfl
    | _ :: _ :: _ :: _, h3 => simp at h3
  · refine .inr ⟨v, fun e => ?_, h2, hw⟩
    rw [e] at h1
    exact absurd h1 (by decide)
theorem t__law_marks_eq {r : Range} (hr : RangeOk r) : t__law_marks r = some (marksB r) := by
  unfold t__law_marks marksB
  simp only [bnd_ret, bnd_ret_r, bnd_assoc, lift_some, run_ret, ite_ret, bool_and, bool_or, mapT_ret, filT_ret, flatT_ret, filT_id, mapT_id, outT_inr, outT_inl, fit0, fit1, fit2, fit3, fit4, fit5, fit6, fit7, fit8, fit9, fit10, fit11, fit12]
  rw [foldT_app (g := fun ps : List Part => ps.flatMap partMarks) (c := 56) (B := 1000)]
  · rfl
  · intro ps hps s hs
    obtain ⟨h1, h2⟩ := hr.1 ps hps
    rw [foldT_app (g := partMarks) (c := 14) (B := s.length + 56)]
    · intro p hp s1 hs1
      have key : ∀ v : Ver, v.2.length ≤ 1000 → v = markV p → (bnd (lift (catT s1 [v, nextV v])) fun y22 => foldT (fun s23 x24 => bnd (lift (catT s23 [(x24, [Item.num 0]), (x24, []), nextV (x24, [])])) fun y26 => ret y26) (topsN v.1) y22) = ret (s1 ++ partMarks p) := by
        intro v hv e
        rw [catT_ok (by simp only [big, List.length_cons, List.length_nil]; omega), lift_some, bnd_ret]
        rw [foldT_app (g := fun t => [tailN t, (t, []), nextV (t, [])]) (c := 3) (B := 2000)]
        · rw [e]
          unfold partMarks
          rw [List.append_assoc]
        · intro t _ s2 hs2
          rw [catT_ok (by simp only [big, List.length_cons, List.length_nil]; omega), lift_some, bnd_ret]
          rfl
        · intro t _
          simp
        · simp [topsN]
          omega
      have tn : ∀ t : Num, t__law_next (t, []) = some (nextV (t, [])) := fun t => t__law_next_eq _ (by simp [big])
      rcases mark_nums (h2 p hp) with ⟨e1, xs, e2, e3, e4⟩ | ⟨v, e1, e2, hw⟩
      · have := key (padN xs, []) (by simp) (by unfold markV; rw [e2])
        simp only [bnd_ret, bnd_ret_r, bnd_assoc, lift_some, run_ret, ite_ret, bool_and, bool_or, mapT_ret, filT_ret, flatT_ret, filT_id, mapT_id, outT_inr, outT_inl, fit0, fit1, fit2, fit3, fit4, fit5, fit6, fit7, fit8, fit9, fit10, fit11, fit12, e1, e2, decide_true, if_true, asNums, e3, e4, t__law_more_eq, tn]
        simp only [bnd_ret, bnd_ret_r, bnd_assoc, lift_some, run_ret, ite_ret, bool_and, bool_or, mapT_ret, filT_ret, flatT_ret, filT_id, mapT_id, outT_inr, outT_inl, fit0, fit1, fit2, fit3, fit4, fit5, fit6, fit7, fit8, fit9, fit10, fit11, fit12] at this
        exact this
      · have := key v hw.2.2 (by unfold markV; rw [e2])
        simp only [bnd_ret, bnd_ret_r, bnd_assoc, lift_some, run_ret, ite_ret, bool_and, bool_or, mapT_ret, filT_ret, flatT_ret, filT_id, mapT_id, outT_inr, outT_inl, fit0, fit1, fit2, fit3, fit4, fit5, fit6, fit7, fit8, fit9, fit10, fit11, fit12, e1, e2, decide_false, Bool.false_eq_true, if_false, asVer, t__law_more_eq, tn, t__law_next_eq v (Nat.lt_of_le_of_lt hw.2.2 (by decide))]
        simp only [bnd_ret, bnd_ret_r, bnd_assoc, lift_some, run_ret, ite_ret, bool_and, bool_or, mapT_ret, filT_ret, flatT_ret, filT_id, mapT_id, outT_inr, outT_inl, fit0, fit1, fit2, fit3, fit4, fit5, fit6, fit7, fit8, fit9, fit10, fit11, fit12] at this
        exact this
    · intro p _
      rw [partMarks_len]
      exact Nat.le_refl _
    · omega
  · intro ps hps
    have := flat_len (f := partMarks) (c := 14) (xs := ps) fun p _ => by rw [partMarks_len]; exact Nat.le_refl _
    have := (hr.1 ps hps).1
    omega
  · have := hr.2
    simp only [List.length_cons, List.length_nil]
    omega
end Ev

set_option Elab.async false
set_option linter.all false
set_option maxRecDepth 100000
set_option maxHeartbeats 4000000
namespace Ev
open PySem
/-! R6a: marks of drawn ranges. -/
theorem nn_next {v : Ver} (h : NnItems v) : NnItems (nextV v) := by
  unfold nextV
  split
  · intro x hx
    rw [List.mem_singleton.mp hx]
    decide +kernel
  · intro x hx
    rcases List.mem_append.mp hx with hx | hx
    · exact h x hx
    · rw [List.mem_singleton.mp hx]
      decide +kernel
theorem nn_nil (n : Num) : NnItems (n, []) := fun x hx => by simp at hx
theorem nn_tail (n : Num) : NnItems (tailN n) := fun x hx => by
  rw [List.mem_singleton.mp hx]
  decide +kernel
theorem nnN_next {v : Ver} (h : NnN v.1) : NnN (nextV v).1 := by
  unfold nextV
  split
  · exact ⟨h.1, h.2.1, by show 0 ≤ v.1.2.2 + 1; have := h.2.2; omega⟩
  · exact h
theorem len_next (v : Ver) : (nextV v).2.length ≤ v.2.length + 1 := by
  unfold nextV
  split <;> simp
def Mark (v : Ver) : Prop := NnN v.1 ∧ NnItems v ∧ v.2.length ≤ 5
theorem Mark.well {v : Ver} (h : Mark v) : WellV v := ⟨h.1, h.2.1, by have := h.2.2; omega⟩
theorem nn_tops {n : Num} (h : NnN n) : ∀ t ∈ topsN n, NnN t := by
  intro t ht
  obtain ⟨h1, h2, h3⟩ := h
  simp only [topsN, List.mem_cons, List.not_mem_nil, or_false] at ht
  rcases ht with rfl | rfl | rfl | rfl
  · exact ⟨h1, h2, h3⟩
  · exact ⟨h1, h2, by show 0 ≤ n.2.2 + 1; omega⟩
  · exact ⟨h1, by show 0 ≤ n.2.1 + 1; omega, Int.le_refl _⟩
  · exact ⟨by show 0 ≤ n.1 + 1; omega, Int.le_refl _, Int.le_refl _⟩
theorem PartIn.mark {most : Int} {p : Part} (h : PartIn most p) : NnN (markV p).1 ∧ NnItems (markV p) ∧ (markV p).2.length ≤ 4 := by
  unfold markV
  rcases h with ⟨h1, xs, h2, h3, h4⟩ | ⟨h1, v, h2, h3⟩
  · rw [h2]
    refine ⟨?_, nn_nil _, by simp⟩
    match xs, h3, h4 with
    | [], _, _ => exact ⟨Int.le_refl _, Int.le_refl _, Int.le_refl _⟩
    | [a], _, h4 => exact ⟨(h4 a (by simp)).1, Int.le_refl _, Int.le_refl _⟩
    | [a, b], _, h4 => exact ⟨(h4 a (by simp)).1, (h4 b (by simp)).1, Int.le_refl _⟩
    | _ :: _ :: _ :: _, h3, _ => simp at h3
  · rw [h2]
    exact ⟨h3.well.1, h3.good.2, h3.2.1⟩
theorem marks_mark {most : Int} {r : Range} (h : RangeIn most r) : ∀ v ∈ marksB r, Mark v := by
  intro v hv
  rcases List.mem_append.mp hv with hv | hv
  · simp only [marks0, List.mem_cons, List.not_mem_nil, or_false] at hv
    rcases hv with rfl | rfl | rfl
    · exact ⟨⟨by decide, by decide, by decide⟩, nn_tail _, by decide⟩
    · exact ⟨⟨by decide, by decide, by decide⟩, nn_nil _, by decide⟩
    · exact ⟨⟨by decide, by decide, by decide⟩, nn_tail _, by decide⟩
  · obtain ⟨ps, hps, hv⟩ := List.mem_flatMap.mp hv
    obtain ⟨p, hp, hv⟩ := List.mem_flatMap.mp hv
    obtain ⟨h1, h2, h3⟩ := ((h.1 ps hps).2 p hp).mark
    unfold partMarks at hv
    rcases List.mem_append.mp hv with hv | hv
    · simp only [List.mem_cons, List.not_mem_nil, or_false] at hv
      rcases hv with rfl | rfl
      · exact ⟨h1, h2, by omega⟩
      · exact ⟨nnN_next h1, nn_next h2, by have := len_next (markV p); omega⟩
    · obtain ⟨t, ht, hv⟩ := List.mem_flatMap.mp hv
      have ht := nn_tops h1 t ht
      simp only [List.mem_cons, List.not_mem_nil, or_false] at hv
      rcases hv with rfl | rfl | rfl
      · exact ⟨ht, nn_tail _, by simp [tailN]⟩
      · exact ⟨ht, nn_nil _, by simp⟩
      · exact ⟨nnN_next ht, nn_next (nn_nil _), by have := len_next (t, []); simp only [List.length_nil] at this; omega⟩
theorem marks_len {most : Int} {r : Range} (h : RangeIn most r) : 3 ≤ (marksB r).length ∧ (marksB r).length ≤ 1000 := by
  unfold marksB
  rw [List.length_append]
  have h1 : ∀ ps ∈ r, (ps.flatMap partMarks).length ≤ 42 := fun ps hps => by
    have := flat_len (f := partMarks) (c := 14) (xs := ps) fun p _ => by rw [partMarks_len]; exact Nat.le_refl _
    have := (h.1 ps hps).1
    omega
  have h2 : (r.flatMap fun ps => ps.flatMap partMarks).length ≤ 42 * r.length := flat_len h1
  have h3 := h.2.2
  simp only [List.length_cons, List.length_nil]
  omega
theorem tail_nn {xs : List Item} (h : ∀ x ∈ xs, x ∈ tailT) (n : Num) : NnItems (n, xs) := fun x hx => tailT_nn x (h x hx)
theorem most3 {m : Int} (h : m ∈ [(2 : Int), 3, 1000000000000000]) : 0 ≤ m ∧ (m + 1).natAbs < 2 ^ 400 := by
  simp only [List.mem_cons, List.not_mem_nil, or_false] at h
  rcases h with rfl | rfl | rfl <;> exact ⟨by decide, by decide +kernel⟩
theorem lt400 {n : Nat} (h : n ≤ 1000) : ((n : Int)).natAbs < 2 ^ 400 := Nat.lt_of_le_of_lt (by omega : ((n : Int)).natAbs ≤ 1000) (by decide +kernel)
end Ev

set_option Elab.async false
set_option linter.all false
set_option maxRecDepth 100000
set_option maxHeartbeats 4000000
namespace Ev
open PySem
/-! R7: rules, near ranges; what explains what was seen. -/
theorem ok_rule {t : Tape} (ht : Drawn t) : Ok t__law_rule t fun s t' => (s = x_listed ∨ s = x_plain) ∧ Drawn t' := by
  unfold t__law_rule
  simp only [bnd_ret, bnd_ret_r, bnd_assoc, lift_some, run_ret, ite_ret, bool_and, bool_or, mapT_ret, filT_ret, flatT_ret, filT_id, mapT_id, outT_inr, outT_inl, fit0, fit1, fit2, fit3, fit4, fit5, fit6, fit7, fit8, fit9, fit10, fit11, fit12, ok_bnd, ok_needT, ok_ret, ok_lift]
  refine ⟨ht.ne, ht.ne, (ok_draw ht (by decide) (by decide)).mono ?_⟩
  rintro a t1 ⟨a1, a2, h1⟩
  obtain ⟨s, es, hs⟩ := atT_get (xs := [x_listed, x_plain]) a1 (by simpa using a2)
  refine ⟨s, es, ?_, h1⟩
  simpa using hs
def RangeNear (most : Int) (r : Range) : Prop := (∀ ps ∈ r, ps.length ≤ 3 ∧ ∀ p ∈ ps, PartIn most p) ∧ 1 ≤ r.length ∧ r.length ≤ 4
theorem RangeIn.near {most : Int} {r : Range} (h : RangeIn most r) : RangeNear most r := ⟨h.1, h.2.1, by have := h.2.2; omega⟩
theorem RangeNear.ok {most : Int} {r : Range} (h : RangeNear most r) : RangeOk r := ⟨fun ps hps => ⟨by have := (h.1 ps hps).1; omega, fun p hp => ((h.1 ps hps).2 p hp).ok⟩, h.2.2⟩
theorem cutF_mem {α : Type} {xs : List α} {i : Int} {x : α} (h : x ∈ cutF xs i) : x ∈ xs := by
  unfold cutF at h
  split at h <;> exact List.mem_of_mem_drop h
theorem cutF_nat {α : Type} (xs : List α) {i : Int} (h : 0 ≤ i) : cutF xs i = xs.drop i.toNat := if_pos h
theorem cutT_nat {α : Type} (xs : List α) {i : Int} (h : 0 ≤ i) : cutT xs i = xs.take i.toNat := if_pos h
theorem ok_near {t : Tape} (ht : Drawn t) {most : Int} (h0 : 0 ≤ most) (h1 : (most + 1).natAbs < 2 ^ 400) {r : Range} (hr : RangeIn most r) : Ok (t__law_near r most) t fun r' t' => RangeNear most r' ∧ Drawn t' := by
  unfold t__law_near
  simp only [bnd_ret, bnd_ret_r, bnd_assoc, lift_some, run_ret, ite_ret, bool_and, bool_or, mapT_ret, filT_ret, flatT_ret, filT_id, mapT_id, outT_inr, outT_inl, fit0, fit1, fit2, fit3, fit4, fit5, fit6, fit7, fit8, fit9, fit10, fit11, fit12, ok_bnd, ok_needT, ok_ret, ok_lift]
  have hl : 1 ≤ r.length ∧ r.length ≤ 3 := hr.2
  refine ⟨ht.ne, ht.ne, (ok_draw ht (by omega) (lt400 (by omega))).mono ?_⟩
  rintro a t1 ⟨a1, a2, h2⟩
  refine ⟨h2.ne, h2.ne, (ok_draw h2 (by decide) (by decide)).mono ?_⟩
  rintro b t2 ⟨b1, b2, h3⟩
  obtain ⟨ps, es, hps⟩ := atT_get (xs := r) a1 a2
  refine ⟨ps, es, ?_⟩
  obtain ⟨p1, p2⟩ := hr.1 ps hps
  have good : ∀ (qs : List Part) (t : Tape), (qs.length ≤ 3 ∧ ∀ p ∈ qs, PartIn most p) → Drawn t → Ok (if (if decide (b = 3) = true then ltI (r.length : Nat) 4 else false) = true then lift (catT r [qs]) else if (if decide (b = 4) = true then ltI 1 (r.length : Nat) else false) = true then lift (catT (cutT r a) (cutF r (a + 1))) else bnd (lift (catT (cutT r a) [qs])) fun x => lift (catT x (cutF r (a + 1)))) t fun r' t' => RangeNear most r' ∧ Drawn t' := by
    intro qs t hq hd
    have c1 := cutT_nat r a1
    have c2 : cutF r (a + 1) = r.drop (a.toNat + 1) := by rw [cutF_nat r (by omega)]; congr 1; omega
    have l1 : (r.take a.toNat).length = a.toNat := by rw [List.length_take]; omega
    have l2 : (r.drop (a.toNat + 1)).length = r.length - (a.toNat + 1) := List.length_drop ..
    rw [c1, c2]
    cases hc1 : (if decide (b = 3) = true then ltI (r.length : Nat) 4 else false) with
    | true =>
      simp only [if_true]
      rw [catT_ok (by simp only [big, List.length_cons, List.length_nil]; omega), lift_some]
      refine ok_ret.mpr ⟨⟨fun q hq' => ?_, by rw [List.length_append]; simp only [List.length_cons, List.length_nil]; omega, by rw [List.length_append]; simp only [List.length_cons, List.length_nil]; omega⟩, hd⟩
      rcases List.mem_append.mp hq' with h | h
      · exact hr.1 q h
      · rw [List.mem_singleton.mp h]; exact hq
    | false =>
      simp only [Bool.false_eq_true, if_false]
      cases hc2 : (if decide (b = 4) = true then ltI 1 (r.length : Nat) else false) with
      | true =>
        have hb2 : 1 < r.length := by
          by_cases hb3 : b = 4
          · rw [if_pos (decide_eq_true hb3)] at hc2
            have := of_decide_eq_true (show decide ((1 : Int) < (r.length : Nat)) = true from hc2)
            omega
          · rw [if_neg (by simpa using hb3)] at hc2
            cases hc2
        simp only [if_true]
        rw [catT_ok (by rw [l1, l2]; simp only [big]; omega), lift_some]
        refine ok_ret.mpr ⟨⟨fun q hq' => ?_, by rw [List.length_append]; omega, by rw [List.length_append]; omega⟩, hd⟩
        rcases List.mem_append.mp hq' with h | h
        · exact hr.1 q (List.mem_of_mem_take h)
        · exact hr.1 q (List.mem_of_mem_drop h)
      | false =>
        simp only [Bool.false_eq_true, if_false]
        rw [catT_ok (by rw [l1]; simp only [big, List.length_cons, List.length_nil]; omega)]
        rw [lift_some, bnd_ret, catT_ok (by simp only [big, List.length_append, List.length_cons, List.length_nil, l1, l2]; omega), lift_some]
        refine ok_ret.mpr ⟨⟨fun q hq' => ?_, by simp only [List.length_append, List.length_cons, List.length_nil, l1, l2]; omega, by simp only [List.length_append, List.length_cons, List.length_nil, l1, l2]; omega⟩, hd⟩
        rcases List.mem_append.mp hq' with h | h
        · rcases List.mem_append.mp h with h | h
          · exact hr.1 q (List.mem_of_mem_take h)
          · rw [List.mem_singleton.mp h]; exact hq
        · exact hr.1 q (List.mem_of_mem_drop h)
  have hp : Ok (if decide (b = 0) = true then bnd (needT (needT (t__law_part most))) fun x => lift (catT (cutT ps 2) [x]) else ret ps) t2 fun qs t' => (qs.length ≤ 3 ∧ ∀ p ∈ qs, PartIn most p) ∧ Drawn t' := by
    cases hb : decide (b = 0) with
    | false => exact ok_ret.mpr ⟨⟨p1, p2⟩, h3⟩
    | true =>
      simp only [if_true]
      simp only [bnd_ret, bnd_ret_r, bnd_assoc, lift_some, run_ret, ite_ret, bool_and, bool_or, mapT_ret, filT_ret, flatT_ret, filT_id, mapT_id, outT_inr, outT_inl, fit0, fit1, fit2, fit3, fit4, fit5, fit6, fit7, fit8, fit9, fit10, fit11, fit12, ok_bnd, ok_needT, ok_ret, ok_lift]
      refine ⟨h3.ne, h3.ne, (ok_part h3 h0 h1).mono ?_⟩
      rintro p t3 ⟨hp, h4⟩
      have hl2 : (cutT ps 2).length ≤ 2 := by unfold cutT; rw [if_pos (by decide), List.length_take]; exact Nat.min_le_left _ _
      refine ⟨_, catT_ok (by simp only [big, List.length_cons, List.length_nil]; omega), ⟨by simp only [List.length_append, List.length_cons, List.length_nil]; omega, fun q hq => ?_⟩, h4⟩
      rcases List.mem_append.mp hq with h | h
      · exact p2 q (cutT_mem h)
      · rw [List.mem_singleton.mp h]; exact hp
  refine hp.mono ?_
  rintro qs t3 ⟨⟨q1, q2⟩, h4⟩
  refine good _ t3 ?_ h4
  have c : ∀ rs : List Part, (rs.length ≤ 3 ∧ ∀ p ∈ rs, PartIn most p) → (if decide (b = 1) = true then cutF rs 1 else rs).length ≤ 3 ∧ ∀ p ∈ (if decide (b = 1) = true then cutF rs 1 else rs), PartIn most p := fun rs hrs => by
    cases decide (b = 1) with
    | false => exact hrs
    | true =>
      refine ⟨?_, fun p hp => hrs.2 p (cutF_mem (show p ∈ cutF rs 1 from hp))⟩
      have : (cutF rs 1).length ≤ rs.length := by rw [cutF_nat _ (by decide), List.length_drop]; omega
      exact Nat.le_trans this hrs.1
  obtain ⟨k1, k2⟩ := c qs ⟨q1, q2⟩
  cases decide (b = 2) with
  | false => exact ⟨k1, k2⟩
  | true => exact ⟨by simp only [if_true, List.length_reverse]; exact k1, fun p hp => k2 p (by simpa using hp)⟩
/-! ### what explains what was seen -/
def explB (r : Range) (rule : Tx) (seen : List (Ver × Bool)) : Bool := seen.all fun p => decide (allowB r p.1 (decide (rule = x_plain)) = p.2)
theorem t_explains_eq {r : Range} (hr : RangeOk r) (rule : Tx) {seen : List (Ver × Bool)} (hs : ∀ p ∈ seen, WellV p.1) : t_explains r rule seen = some (explB r rule seen) := by
  unfold t_explains
  simp only [bnd_ret]
  rw [mapT_of (g := fun p : Ver × Bool => decide (allowB r p.1 (decide (rule = x_plain)) = p.2)) seen (fun p hp => by simp only [bnd_ret, bnd_ret_r, bnd_assoc, lift_some, run_ret, ite_ret, bool_and, bool_or, mapT_ret, filT_ret, flatT_ret, filT_id, mapT_id, outT_inr, outT_inl, fit0, fit1, fit2, fit3, fit4, fit5, fit6, fit7, fit8, fit9, fit10, fit11, fit12, t_allows_eq hr (hs p hp)])]
  simp only [bnd_ret, bnd_ret_r, bnd_assoc, lift_some, run_ret, ite_ret, bool_and, bool_or, mapT_ret, filT_ret, flatT_ret, filT_id, mapT_id, outT_inr, outT_inl, fit0, fit1, fit2, fit3, fit4, fit5, fit6, fit7, fit8, fit9, fit10, fit11, fit12]
  unfold explB
  rw [List.all_map]
  rfl
theorem enumT_fst {α : Type} : ∀ (xs : List α) (k : Nat), (enumT k xs).map (·.1) = (List.range' k xs.length).map Int.ofNat
  | [], k => rfl
  | x :: xs, k => by
    rw [enumT, List.map_cons, enumT_fst xs (k + 1), List.length_cons, List.range'_succ, List.map_cons]
    rfl
theorem enumT_mem {α : Type} : ∀ {xs : List α} {k : Nat} {p : Int × α}, p ∈ enumT k xs → ∃ j : Nat, p.1 = ((k + j : Nat) : Int) ∧ xs[j]? = some p.2
  | [], k, p, h => by simp [enumT] at h
  | x :: xs, k, p, h => by
    rw [enumT] at h
    rcases List.mem_cons.mp h with rfl | h
    · exact ⟨0, rfl, rfl⟩
    · obtain ⟨j, h1, h2⟩ := enumT_mem h
      exact ⟨j + 1, by rw [h1]; congr 1; omega, by simpa using h2⟩
theorem atT_nat {α : Type} {xs : List α} {j : Nat} {x : α} (h : xs[j]? = some x) : atT xs (j : Int) = some x := by
  have hj := (List.getElem?_eq_some_iff.mp h).1
  unfold atT L2.atI L2.ixN
  rw [if_pos (by omega), if_pos (by omega)]
  simpa using h
theorem foldT_pick {α β : Type} {f : List β → α → M (List β)} {c : α → Bool} {g : α → β} {B : Nat} : ∀ (xs : List α) (s : List β), (∀ x ∈ xs, ∀ s, s.length < B → f s x = ret (if c x then s ++ [g x] else s)) → s.length + xs.length ≤ B → foldT f xs s = ret (s ++ (xs.filter c).map g)
  | [], s, _, _ => by simp [foldT]
  | x :: xs, s, h, hl => by
    rw [List.length_cons] at hl
    rw [foldT, h x List.mem_cons_self s (by omega), bnd_ret, foldT_pick (c := c) (g := g) (B := B) xs _ (fun y hy => h y (List.mem_cons_of_mem _ hy)) (by split <;> first | (simp only [List.length_append, List.length_cons, List.length_nil]; omega) | omega), List.filter_cons]
    cases c x <;> simp
theorem t_fitting_eq {rs : List Range} (hr : ∀ r ∈ rs, RangeOk r) (rule : Tx) {seen : List (Ver × Bool)} (hs : ∀ p ∈ seen, WellV p.1) : t_fitting rs rule seen = some (((enumT 0 rs).filter fun p => explB p.2 rule seen).map (·.1)) := by
  unfold t_fitting
  simp only [bnd_ret]
  rw [filT_of (q := fun p : Int × Range => explB p.2 rule seen) (g := fun p => p.1) (enumT 0 rs) (fun p hp => ?_) fun p _ _ => rfl]
  · simp only [bnd_ret, bnd_ret_r, bnd_assoc, lift_some, run_ret, ite_ret, bool_and, bool_or, mapT_ret, filT_ret, flatT_ret, filT_id, mapT_id, outT_inr, outT_inl, fit0, fit1, fit2, fit3, fit4, fit5, fit6, fit7, fit8, fit9, fit10, fit11, fit12]
  · obtain ⟨j, h1, h2⟩ := enumT_mem hp
    simp only [bnd_ret, bnd_ret_r, bnd_assoc, lift_some, run_ret, ite_ret, bool_and, bool_or, mapT_ret, filT_ret, flatT_ret, filT_id, mapT_id, outT_inr, outT_inl, fit0, fit1, fit2, fit3, fit4, fit5, fit6, fit7, fit8, fit9, fit10, fit11, fit12, t_explains_eq (hr p.2 (List.mem_of_getElem? h2)) rule hs]
theorem t_rules_for_eq {r : Range} (hr : RangeOk r) {seen : List (Ver × Bool)} (hs : ∀ p ∈ seen, WellV p.1) : t_rules_for r seen = some (c_RULES.filter fun rule => explB r rule seen) := by
  unfold t_rules_for
  simp only [bnd_ret]
  rw [filT_of (q := fun rule => explB r rule seen) (g := fun p => p) c_RULES (fun p hp => by simp only [bnd_ret, bnd_ret_r, bnd_assoc, lift_some, run_ret, ite_ret, bool_and, bool_or, mapT_ret, filT_ret, flatT_ret, filT_id, mapT_id, outT_inr, outT_inl, fit0, fit1, fit2, fit3, fit4, fit5, fit6, fit7, fit8, fit9, fit10, fit11, fit12, t_explains_eq hr p hs]) fun p _ _ => rfl]
  simp only [bnd_ret, bnd_ret_r, bnd_assoc, lift_some, run_ret, ite_ret, bool_and, bool_or, mapT_ret, filT_ret, flatT_ret, filT_id, mapT_id, outT_inr, outT_inl, fit0, fit1, fit2, fit3, fit4, fit5, fit6, fit7, fit8, fit9, fit10, fit11, fit12, List.map_id']
/-- the law's own look at what was seen -/
theorem seen_filT {r : Range} (hr : RangeOk r) (rule : Tx) {seen : List (Ver × Bool)} (hs : ∀ p ∈ seen, WellV p.1) : filT (fun p : Ver × Bool => bnd (lift (t__law_allowed r p.1 rule)) fun x => ret (!decide (x = p.2))) (fun _ => ret (1 : Int)) seen = ret ((seen.filter fun p => !decide (allowB r p.1 (decide (rule = x_plain)) = p.2)).map fun _ => 1) :=
  filT_of _ (fun p hp => by simp only [bnd_ret, bnd_ret_r, bnd_assoc, lift_some, run_ret, ite_ret, bool_and, bool_or, mapT_ret, filT_ret, flatT_ret, filT_id, mapT_id, outT_inr, outT_inl, fit0, fit1, fit2, fit3, fit4, fit5, fit6, fit7, fit8, fit9, fit10, fit11, fit12, t__law_allowed_eq hr (hs p hp)]) fun p _ _ => rfl
theorem seen_none {r : Range} {rule : Tx} {seen : List (Ver × Bool)} : decide (((seen.filter fun p => !decide (allowB r p.1 (decide (rule = x_plain)) = p.2)).map fun _ => (1 : Int)) = []) = explB r rule seen := by
  unfold explB
  refine Bool.eq_iff_iff.mpr ?_
  rw [decide_eq_true_iff, List.map_eq_nil_iff, List.filter_eq_nil_iff, List.all_eq_true]
  simp
end Ev

set_option Elab.async false
set_option linter.all false
set_option maxRecDepth 100000
set_option maxHeartbeats 4000000
namespace Ev
open PySem
/-! R8: rows of pieces, over any order. -/
section
variable {α β : Type} {l : α → α → Bool}
abbrev Pc (α : Type) := α × Option α
def lessO (l : α → α → Bool) : Option α → Option α → Bool
  | none, _ => false
  | some _, none => true
  | some x, some y => l x y
def maxO (l : α → α → Bool) (a b : Option α) : Option α := if lessO l a b then b else a
def minO (l : α → α → Bool) (a b : Option α) : Option α := if lessO l a b then a else b
def inP (l : α → α → Bool) (x : α) (p : Pc α) : Bool := !l x p.1 && lessO l (some x) p.2
def inPs (l : α → α → Bool) (x : α) (ps : List (Pc α)) : Bool := ps.any (inP l x)
def nonE (l : α → α → Bool) (p : Pc α) : Bool := lessO l (some p.1) p.2
def Canon (l : α → α → Bool) : List (Pc α) → Prop
  | [] => True
  | p :: r => nonE l p = true ∧ (∀ q ∈ r.head?, lessO l p.2 (some q.1) = true) ∧ Canon l r
def endsP (ps : List (Pc α)) : List α := ps.flatMap fun p => p.1 :: p.2.toList
theorem canon_nil : Canon l ([] : List (Pc α)) := trivial
theorem canon_cons {p : Pc α} {r : List (Pc α)} : Canon l (p :: r) ↔ nonE l p = true ∧ (∀ q ∈ r.head?, lessO l p.2 (some q.1) = true) ∧ Canon l r := Iff.rfl
theorem canon_two {p q : Pc α} {r : List (Pc α)} : Canon l (p :: q :: r) ↔ nonE l p = true ∧ lessO l p.2 (some q.1) = true ∧ Canon l (q :: r) := by
  rw [canon_cons]
  constructor
  · rintro ⟨h1, h2, h3⟩; exact ⟨h1, h2 q rfl, h3⟩
  · rintro ⟨h1, h2, h3⟩; exact ⟨h1, fun z hz => by cases hz; exact h2, h3⟩
theorem mem_ends {ps : List (Pc α)} {x : α} : x ∈ endsP ps ↔ ∃ p ∈ ps, x = p.1 ∨ p.2 = some x := by
  unfold endsP
  rw [List.mem_flatMap]
  constructor
  · rintro ⟨p, hp, hx⟩
    refine ⟨p, hp, ?_⟩
    rcases List.mem_cons.mp hx with h | h
    · exact .inl h
    · exact .inr (by simpa using h)
  · rintro ⟨p, hp, hx⟩
    refine ⟨p, hp, ?_⟩
    rcases hx with rfl | h
    · exact List.mem_cons_self
    · exact List.mem_cons_of_mem _ (by simpa using h)
variable [L : LinO l]
theorem le_lt {x y z : α} (h : l y x = false) (k : l y z = true) : l x z = true := by
  cases e : l x y with
  | true => exact L.tr e k
  | false => rw [L.tot e h]; exact k
theorem lt_le {x y z : α} (h : l x y = true) (k : l z y = false) : l x z = true := by
  cases e : l y z with
  | true => exact L.tr h e
  | false => rw [← L.tot e k]; exact h
theorem le_le {x y z : α} (h : l y x = false) (k : l z y = false) : l z x = false := by
  cases e : l z x with
  | false => rfl
  | true =>
    have := le_lt (x := y) (y := z) (z := x) k e
    rw [h] at this
    cases this
theorem lt_asym {x y : α} (h : l x y = true) : l y x = false := LinO.asym L h
theorem le_of {x y : α} : (l y x = false) ↔ (l x y = true ∨ x = y) := by
  constructor
  · intro h
    cases e : l x y with
    | true => exact .inl rfl
    | false => exact .inr (L.tot e h)
  · rintro (h | rfl)
    · exact lt_asym h
    · exact L.irr _
theorem lessO_tr {a b c : Option α} (h : lessO l a b = true) (k : lessO l b c = true) : lessO l a c = true := by
  cases a with
  | none => cases h
  | some x => cases b with
    | none => cases k
    | some y => cases c with
      | none => rfl
      | some z => exact L.tr (show l x y = true from h) (show l y z = true from k)
theorem lessO_irr (a : Option α) : lessO l a a = false := by
  cases a with
  | none => rfl
  | some x => exact L.irr x
theorem lessO_tot {a b : Option α} (h : lessO l a b = false) (k : lessO l b a = false) : a = b := by
  cases a with
  | none => cases b with
    | none => rfl
    | some y => cases k
  | some x => cases b with
    | none => cases h
    | some y => exact congrArg some (L.tot (show l x y = false from h) (show l y x = false from k))
instance : LinO (lessO l) := ⟨lessO_irr, fun {_ _ _} h k => lessO_tr h k, fun {_ _} h k => lessO_tot h k⟩
/-! ### where canonical rows begin and end -/
theorem Canon.after {p : Pc α} : ∀ {r : List (Pc α)}, Canon l (p :: r) → ∀ q ∈ r, lessO l p.2 (some q.1) = true
  | [], _, q, hq => by simp at hq
  | p2 :: r, h, q, hq => by
    obtain ⟨h1, h2, h3⟩ := canon_two.mp h
    rcases List.mem_cons.mp hq with rfl | hq
    · exact h2
    · exact lessO_tr (lessO_tr h2 h3.1) (Canon.after h3 q hq)
theorem Canon.tail {p : Pc α} {r : List (Pc α)} (h : Canon l (p :: r)) : Canon l r := h.2.2
theorem Canon.ne {ps : List (Pc α)} (h : Canon l ps) : ∀ p ∈ ps, nonE l p = true := by
  induction ps with
  | nil => simp
  | cons p r ih =>
    intro q hq
    rcases List.mem_cons.mp hq with rfl | hq
    · exact h.1
    · exact ih h.tail q hq
/-- what is ahead of the first piece is in none -/
theorem inPs_ahead {p : Pc α} {r : List (Pc α)} (h : Canon l (p :: r)) {x : α} (hx : l x p.1 = true) : inPs l x (p :: r) = false := by
  unfold inPs
  rw [List.any_eq_false]
  intro q hq
  unfold inP
  have : l x q.1 = true := by
    rcases List.mem_cons.mp hq with rfl | hq
    · exact hx
    · have h1 := lessO_tr h.1 (Canon.after h q hq)
      exact L.tr hx h1
  rw [this]
  simp
/-- what is not ahead of a later piece is behind the first -/
theorem inP_past {p : Pc α} {r : List (Pc α)} (h : Canon l (p :: r)) {q : Pc α} (hq : q ∈ r) {x : α} (hx : l x q.1 = false) : inP l x p = false := by
  unfold inP
  have h1 := Canon.after h q hq
  cases hp : p.2 with
  | none => rw [hp] at h1; cases h1
  | some y =>
    rw [hp] at h1
    have h1 : l y q.1 = true := h1
    have : l x y = false := by
      cases e : l x y with
      | false => rfl
      | true => rw [L.tr e h1] at hx; cases hx
    show (_ && l x y) = false
    rw [this, Bool.and_false]
theorem inPs_self {p : Pc α} (h : nonE l p = true) : inP l p.1 p = true := by
  unfold inP
  rw [L.irr]
  exact h
/-- at its end a piece is over, and the next is yet to come -/
theorem inPs_end {p : Pc α} {r : List (Pc α)} (h : Canon l (p :: r)) {y : α} (hy : p.2 = some y) : inPs l y (p :: r) = false := by
  unfold inPs
  rw [List.any_cons]
  have h1 : inP l y p = false := by
    unfold inP
    rw [hy]
    show (_ && l y y) = false
    rw [L.irr, Bool.and_false]
  rw [h1, Bool.false_or]
  cases r with
  | nil => rfl
  | cons q r =>
    have h2 := (canon_two.mp h).2.1
    rw [hy] at h2
    exact inPs_ahead h.tail h2
theorem low_end {p : Pc α} {r : List (Pc α)} : p.1 ∈ endsP (p :: r) := mem_ends.mpr ⟨p, List.mem_cons_self, .inl rfl⟩
theorem high_end {p : Pc α} {r : List (Pc α)} {y : α} (h : p.2 = some y) : y ∈ endsP (p :: r) := mem_ends.mpr ⟨p, List.mem_cons_self, .inr h⟩
theorem ends_tail {p : Pc α} {r : List (Pc α)} {x : α} (h : x ∈ endsP r) : x ∈ endsP (p :: r) := by
  obtain ⟨q, hq, e⟩ := mem_ends.mp h
  exact mem_ends.mpr ⟨q, List.mem_cons_of_mem _ hq, e⟩
/-- behind the first piece -/
theorem inPs_tail {p : Pc α} {r : List (Pc α)} (h : Canon l (p :: r)) {x : α} (hx : lessO l p.2 (some x) = true) : inPs l x (p :: r) = inPs l x r := by
  unfold inPs
  rw [List.any_cons]
  have : inP l x p = false := by
    unfold inP
    cases hp : p.2 with
    | none => rw [hp] at hx; cases hx
    | some y =>
      rw [hp] at hx
      show (_ && l x y) = false
      rw [lt_asym (show l y x = true from hx), Bool.and_false]
  rw [this, Bool.false_or]
theorem end_past {p : Pc α} {r : List (Pc α)} (h : Canon l (p :: r)) {x : α} (hx : x ∈ endsP r) : lessO l p.2 (some x) = true := by
  obtain ⟨q, hq, e⟩ := mem_ends.mp hx
  have h1 := Canon.after h q hq
  rcases e with rfl | e
  · exact h1
  · have h2 := h.tail.ne q hq
    unfold nonE at h2
    rw [e] at h2
    exact lessO_tr h1 h2
/-- canonical rows are told apart at their ends -/
theorem canon_ext : ∀ {a b : List (Pc α)}, Canon l a → Canon l b → (∀ x, (x ∈ endsP a ∨ x ∈ endsP b) → inPs l x a = inPs l x b) → a = b
  | [], [], _, _, _ => rfl
  | [], q :: b, _, hb, h => by
    have := h q.1 (.inr low_end)
    have h2 : inPs l q.1 (q :: b) = true := by unfold inPs; rw [List.any_cons, inPs_self hb.1]; rfl
    rw [h2] at this
    cases this
  | p :: a, [], ha, _, h => by
    have := h p.1 (.inl low_end)
    have h2 : inPs l p.1 (p :: a) = true := by unfold inPs; rw [List.any_cons, inPs_self ha.1]; rfl
    rw [h2] at this
    cases this
  | p :: a, q :: b, ha, hb, h => by
    have pl : inPs l p.1 (p :: a) = true := by unfold inPs; rw [List.any_cons, inPs_self ha.1]; rfl
    have ql : inPs l q.1 (q :: b) = true := by unfold inPs; rw [List.any_cons, inPs_self hb.1]; rfl
    have e1 : p.1 = q.1 := by
      refine L.tot ?_ ?_
      · cases e : l p.1 q.1 with
        | false => rfl
        | true =>
          have := h p.1 (.inl low_end)
          rw [pl, inPs_ahead hb e] at this
          cases this
      · cases e : l q.1 p.1 with
        | false => rfl
        | true =>
          have := h q.1 (.inr low_end)
          rw [ql, inPs_ahead ha e] at this
          cases this
    have e2 : p.2 = q.2 := by
      refine lessO_tot (l := l) ?_ ?_
      · cases e : lessO l p.2 q.2 with
        | false => rfl
        | true =>
          cases hp : p.2 with
          | none => rw [hp] at e; cases e
          | some y =>
            have h1 := h y (.inl (high_end hp))
            rw [inPs_end ha hp] at h1
            have h2 : inP l y q = true := by
              unfold inP
              rw [hp] at e
              rw [e, ← e1]
              have := ha.1
              unfold nonE at this
              rw [hp] at this
              rw [lt_asym (show l p.1 y = true from this)]
              rfl
            have h3 : inPs l y (q :: b) = true := by unfold inPs; rw [List.any_cons, h2]; rfl
            rw [h3] at h1
            cases h1
      · cases e : lessO l q.2 p.2 with
        | false => rfl
        | true =>
          cases hq : q.2 with
          | none => rw [hq] at e; cases e
          | some y =>
            have h1 := h y (.inr (high_end hq))
            rw [inPs_end hb hq] at h1
            have h2 : inP l y p = true := by
              unfold inP
              rw [hq] at e
              rw [e, e1]
              have := hb.1
              unfold nonE at this
              rw [hq] at this
              rw [lt_asym (show l q.1 y = true from this)]
              rfl
            have h3 : inPs l y (p :: a) = true := by unfold inPs; rw [List.any_cons, h2]; rfl
            rw [h3] at h1
            cases h1
    have e3 : p = q := Prod.ext e1 e2
    subst e3
    rw [canon_ext ha.tail hb.tail fun x hx => ?_]
    rcases hx with hx | hx
    · have := h x (.inl (ends_tail hx))
      rw [inPs_tail ha (end_past ha hx), inPs_tail hb (end_past ha hx)] at this
      exact this
    · have := h x (.inr (ends_tail hx))
      rw [inPs_tail ha (end_past hb hx), inPs_tail hb (end_past hb hx)] at this
      exact this
/-! ### merged -/
def mstep (l : α → α → Bool) (f : List (Pc α)) (p : Pc α) : List (Pc α) := match f.getLast? with
  | some q => if lessO l q.2 (some p.1) then f ++ [p] else f.dropLast ++ [(q.1, maxO l q.2 p.2)]
  | none => [p]
def sortLow (l : α → α → Bool) (ps : List (Pc α)) : List (Pc α) := ps.mergeSort fun p q => !l q.1 p.1
def mergedB (l : α → α → Bool) (ps : List (Pc α)) : List (Pc α) := (sortLow l (ps.filter (nonE l))).foldl (mstep l) []
theorem canon_snoc {q p : Pc α} : ∀ {f : List (Pc α)}, Canon l (f ++ [q]) → lessO l q.2 (some p.1) = true → nonE l p = true → Canon l (f ++ [q] ++ [p])
  | [], h, h2, h3 => canon_two.mpr ⟨h.1, h2, h3, by simp, trivial⟩
  | a :: f, h, h2, h3 => by
    obtain ⟨k1, k2, k3⟩ := h
    refine ⟨k1, ?_, canon_snoc k3 h2 h3⟩
    cases f with
    | nil => exact k2
    | cons b f => exact k2
theorem canon_last {q : Pc α} {h : Option α} : ∀ {f : List (Pc α)}, Canon l (f ++ [q]) → lessO l (some q.1) h = true → Canon l (f ++ [(q.1, h)])
  | [], k, k2 => ⟨k2, by simp, trivial⟩
  | a :: f, k, k2 => by
    obtain ⟨k1, k3, k4⟩ := k
    refine ⟨k1, ?_, canon_last k4 k2⟩
    cases f with
    | nil => intro z hz; cases hz; exact k3 q rfl
    | cons b f => exact k3
theorem inPs_app {x : α} {a b : List (Pc α)} : inPs l x (a ++ b) = (inPs l x a || inPs l x b) := by
  unfold inPs
  rw [List.any_append]
theorem inPs_one {x : α} {p : Pc α} : inPs l x [p] = inP l x p := by
  unfold inPs
  rw [List.any_cons, List.any_nil, Bool.or_false]
theorem lt_maxO {x : α} {a b : Option α} : lessO l (some x) (maxO l a b) = (lessO l (some x) a || lessO l (some x) b) := by
  unfold maxO
  cases e : lessO l a b with
  | true =>
    simp only [if_true]
    cases h : lessO l (some x) a with
    | false => rw [Bool.false_or]
    | true => rw [lessO_tr h e]; rfl
  | false =>
    simp only [Bool.false_eq_true, if_false]
    cases h : lessO l (some x) b with
    | false => rw [Bool.or_false]
    | true =>
      have : lessO l (some x) a = true := lt_le (l := lessO l) h e
      rw [this]; rfl
theorem lt_minO {x : α} {a b : Option α} : lessO l (some x) (minO l a b) = (lessO l (some x) a && lessO l (some x) b) := by
  unfold minO
  cases e : lessO l a b with
  | true =>
    simp only [if_true]
    cases h : lessO l (some x) a with
    | false => rw [Bool.false_and]
    | true => rw [lessO_tr h e]; rfl
  | false =>
    simp only [Bool.false_eq_true, if_false]
    cases h : lessO l (some x) b with
    | false => rw [Bool.and_false]
    | true =>
      have : lessO l (some x) a = true := lt_le (l := lessO l) h e
      rw [this]; rfl
/-- pieces that touch make one -/
theorem inP_join {x : α} {q p : Pc α} (h1 : l p.1 q.1 = false) (h2 : lessO l q.2 (some p.1) = false) (hp : nonE l p = true) : inP l x (q.1, maxO l q.2 p.2) = (inP l x q || inP l x p) := by
  unfold inP
  rw [lt_maxO]
  cases a : l x q.1 with
  | true =>
    have : l x p.1 = true := lt_le (l := l) a h1
    rw [this]; rfl
  | false =>
    cases b : l x p.1 with
    | false => simp
    | true =>
      have : lessO l (some x) q.2 = true := lt_le (l := lessO l) (show lessO l (some x) (some p.1) = true from b) h2
      rw [this]; rfl
theorem mstep_some (f : List (Pc α)) (q p : Pc α) : mstep l (f ++ [q]) p = if lessO l q.2 (some p.1) then f ++ [q] ++ [p] else f ++ [(q.1, maxO l q.2 p.2)] := by
  unfold mstep
  simp
theorem mstep_ok {f : List (Pc α)} {p : Pc α} (hf : Canon l f) (hp : nonE l p = true) (hl : ∀ q ∈ f, l p.1 q.1 = false) : Canon l (mstep l f p) ∧ (∀ x, inPs l x (mstep l f p) = (inPs l x f || inP l x p)) ∧
    (∀ q ∈ mstep l f p, q.1 = p.1 ∨ ∃ q' ∈ f, q.1 = q'.1) ∧ ∀ x ∈ endsP (mstep l f p), x ∈ endsP f ∨ x = p.1 ∨ p.2 = some x := by
  rcases List.eq_nil_or_concat f with rfl | ⟨f, q, rfl⟩
  · refine ⟨⟨hp, by simp, trivial⟩, fun x => ?_, fun q hq => .inl ?_, fun x hx => ?_⟩
    · show inPs l x [p] = _
      rw [inPs_one]; rfl
    · rw [List.mem_singleton.mp (show q ∈ [p] from hq)]
    · obtain ⟨q, hq, e⟩ := mem_ends.mp (show x ∈ endsP [p] from hx)
      rw [List.mem_singleton.mp hq] at e
      exact .inr e
  · simp only [List.concat_eq_append] at hf hl ⊢
    rw [mstep_some]
    cases e : lessO l q.2 (some p.1) with
    | true =>
      simp only [if_true]
      refine ⟨canon_snoc hf e hp, fun x => ?_, fun z hz => ?_, fun x hx => ?_⟩
      · rw [inPs_app, inPs_one]
      · rcases List.mem_append.mp hz with hz | hz
        · exact .inr ⟨z, hz, rfl⟩
        · rw [List.mem_singleton.mp hz]; exact .inl rfl
      · obtain ⟨z, hz, e⟩ := mem_ends.mp hx
        rcases List.mem_append.mp hz with hz | hz
        · exact .inl (mem_ends.mpr ⟨z, hz, e⟩)
        · rw [List.mem_singleton.mp hz] at e; exact .inr e
    | false =>
      simp only [Bool.false_eq_true, if_false]
      have hq : q ∈ f ++ [q] := List.mem_append_right _ List.mem_cons_self
      have h1 := hl q hq
      refine ⟨canon_last hf ?_, fun x => ?_, fun z hz => ?_, fun x hx => ?_⟩
      · rw [lt_maxO, show lessO l (some q.1) q.2 = true from hf.ne q hq]; rfl
      · rw [inPs_app, inPs_app, inPs_one, inPs_one, inP_join h1 e hp, Bool.or_assoc]
      · rcases List.mem_append.mp hz with hz | hz
        · exact .inr ⟨z, List.mem_append_left _ hz, rfl⟩
        · rw [List.mem_singleton.mp hz]; exact .inr ⟨q, hq, rfl⟩
      · obtain ⟨z, hz, e2⟩ := mem_ends.mp hx
        rcases List.mem_append.mp hz with hz | hz
        · exact .inl (mem_ends.mpr ⟨z, List.mem_append_left _ hz, e2⟩)
        · rw [List.mem_singleton.mp hz] at e2
          rcases e2 with e2 | e2
          · exact .inl (mem_ends.mpr ⟨q, hq, .inl e2⟩)
          · have e2 : maxO l q.2 p.2 = some x := e2
            unfold maxO at e2
            split at e2
            · exact .inr (.inr e2)
            · exact .inl (mem_ends.mpr ⟨q, hq, .inr e2⟩)
theorem fold_ok : ∀ (rs f : List (Pc α)), Canon l f → (∀ p ∈ rs, nonE l p = true) → rs.Pairwise (fun p q => l q.1 p.1 = false) → (∀ q ∈ f, ∀ p ∈ rs, l p.1 q.1 = false) →
    Canon l (rs.foldl (mstep l) f) ∧ (∀ x, inPs l x (rs.foldl (mstep l) f) = (inPs l x f || inPs l x rs)) ∧ ∀ x ∈ endsP (rs.foldl (mstep l) f), x ∈ endsP f ∨ x ∈ endsP rs
  | [], f, hf, _, _, _ => ⟨hf, fun x => by rw [List.foldl_nil, show inPs l x [] = false from rfl, Bool.or_false], fun x hx => .inl hx⟩
  | p :: rs, f, hf, hn, hs, hl => by
    obtain ⟨s1, s2⟩ := List.pairwise_cons.mp hs
    obtain ⟨m1, m2, m3, m4⟩ := mstep_ok hf (hn p List.mem_cons_self) fun q hq => hl q hq p List.mem_cons_self
    obtain ⟨r1, r2, r3⟩ := fold_ok rs (mstep l f p) m1 (fun q hq => hn q (List.mem_cons_of_mem _ hq)) s2 fun q hq z hz => by
      rcases m3 q hq with e | ⟨q', hq', e⟩
      · rw [e]; exact s1 z hz
      · rw [e]; exact hl q' hq' z (List.mem_cons_of_mem _ hz)
    rw [List.foldl_cons]
    refine ⟨r1, fun x => ?_, fun x hx => ?_⟩
    · rw [r2, m2, Bool.or_assoc]
      rfl
    · rcases r3 x hx with h | h
      · rcases m4 x h with h | h
        · exact .inl h
        · exact .inr (mem_ends.mpr ⟨p, List.mem_cons_self, h⟩)
      · exact .inr (ends_tail h)
theorem sortLow_perm (ps : List (Pc α)) : (sortLow l ps).Perm ps := List.mergeSort_perm _ _
theorem sortLow_pw (ps : List (Pc α)) : (sortLow l ps).Pairwise fun p q => l q.1 p.1 = false := by
  have := List.pairwise_mergeSort (le := fun p q : Pc α => !l q.1 p.1) (fun a b c h k => by
    simp only [Bool.not_eq_true'] at *
    exact le_le h k) (fun a b => by
    simp only [Bool.or_eq_true, Bool.not_eq_true']
    cases e : l b.1 a.1 with
    | false => exact .inl rfl
    | true => exact .inr (lt_asym e)) ps
  exact this.imp fun h => by simpa using h
theorem merged_ok (ps : List (Pc α)) : Canon l (mergedB l ps) ∧ (∀ x, inPs l x (mergedB l ps) = inPs l x ps) ∧ ∀ x ∈ endsP (mergedB l ps), x ∈ endsP ps := by
  have pm := sortLow_perm (l := l) (ps.filter (nonE l))
  obtain ⟨h1, h2, h3⟩ := fold_ok (l := l) (sortLow l (ps.filter (nonE l))) [] trivial (fun p hp => (List.mem_filter.mp (pm.mem_iff.mp hp)).2) (sortLow_pw _) (by simp)
  refine ⟨h1, fun x => ?_, fun x hx => ?_⟩
  · show inPs l x ((sortLow l (ps.filter (nonE l))).foldl (mstep l) []) = _
    rw [h2, show inPs l x [] = false from rfl, Bool.false_or]
    unfold inPs
    rw [pm.any_eq, List.any_filter]
    have : ∀ p : Pc α, (nonE l p && inP l x p) = inP l x p := fun p => by
      cases e : inP l x p with
      | false => rw [Bool.and_false]
      | true =>
        unfold inP at e
        rw [Bool.and_eq_true, Bool.not_eq_true'] at e
        have : nonE l p = true := by
          unfold nonE
          cases hp : p.2 with
          | none => rfl
          | some y =>
            have e2 := e.2
            rw [hp] at e2
            exact le_lt (l := l) e.1 e2
        rw [this]; rfl
    simp only [this]
  · rcases h3 x hx with h | h
    · simp [endsP] at h
    · obtain ⟨p, hp, e⟩ := mem_ends.mp h
      exact mem_ends.mpr ⟨p, (List.mem_filter.mp (pm.mem_iff.mp hp)).1, e⟩
end
end Ev

set_option Elab.async false
set_option linter.all false
set_option maxRecDepth 100000
set_option maxHeartbeats 4000000
namespace Ev
open PySem
/-! R9: the greatest, the least of some versions; choices. -/
section
variable {α β : Type}
theorem keysT_all {f : α → Option β} {k : α → β} (h : ∀ x, f x = some (k x)) : ∀ xs : List α, keysT f xs = some (xs.map k)
  | [] => rfl
  | x :: xs => by
    rw [keysT, h x, keysT_all h xs]
    rfl
theorem zip_map_self (k : α → β) : ∀ xs : List α, (xs.map k).zip xs = xs.map fun x => (k x, x)
  | [] => rfl
  | x :: xs => by rw [List.map_cons, List.zip_cons_cons, zip_map_self k xs]; rfl
theorem srtT_all {f : α → Option β} {k : α → β} {l : β → β → Bool} (h : ∀ x, f x = some (k x)) (xs : List α) : srtT f l xs = some (xs.mergeSort fun x y => !l (k y) (k x)) := by
  unfold srtT
  rw [keysT_all h, Option.map_some, zip_map_self]
  unfold sortP
  rw [← List.map_mergeSort (r := fun x y => !l (k y) (k x)) (f := fun x => (k x, x)) (fun _ _ _ _ => rfl), List.map_map]
  exact congrArg some (List.map_id' _)
def best1 (mx : Bool) (l : α → α → Bool) (b : α) (xs : List α) : α := xs.foldl (fun a y => if (if mx then l a y else l y a) then y else a) b
theorem bestP_all {k : α → β} {l : β → β → Bool} (mx : Bool) : ∀ (xs : List α) (b : α), (bestP mx l (k b, b) (xs.map fun x => (k x, x))).2 = best1 mx (fun x y => l (k x) (k y)) b xs ∧ (bestP mx l (k b, b) (xs.map fun x => (k x, x))).1 = k (best1 mx (fun x y => l (k x) (k y)) b xs)
  | [], b => ⟨rfl, rfl⟩
  | x :: xs, b => by
    rw [List.map_cons, bestP]
    unfold best1
    rw [List.foldl_cons]
    cases e : (if mx then l (k b) (k x) else l (k x) (k b)) with
    | true => simp only [e, if_true]; exact bestP_all mx xs x
    | false => simp only [e, Bool.false_eq_true, if_false]; exact bestP_all mx xs b
theorem bestT_all {f : α → Option β} {k : α → β} {l : β → β → Bool} (h : ∀ x, f x = some (k x)) (mx : Bool) (x : α) (xs : List α) : bestT mx f l (x :: xs) = some (best1 mx (fun x y => l (k x) (k y)) x xs) := by
  unfold bestT
  rw [keysT_all h, Option.bind_some, zip_map_self, List.map_cons]
  show some (bestP mx l (k x, x) (xs.map fun x => (k x, x))).2 = _
  rw [(bestP_all mx xs x).1]
variable {l : α → α → Bool} [L : LinO l]
def IsMax (l : α → α → Bool) (m : α) (xs : List α) : Prop := m ∈ xs ∧ ∀ y ∈ xs, l m y = false
def IsMin (l : α → α → Bool) (m : α) (xs : List α) : Prop := m ∈ xs ∧ ∀ y ∈ xs, l y m = false
theorem IsMax.uniq {m n : α} {xs : List α} (h : IsMax l m xs) (k : IsMax l n xs) : m = n := L.tot (h.2 n k.1) (k.2 m h.1)
theorem IsMin.uniq {m n : α} {xs : List α} (h : IsMin l m xs) (k : IsMin l n xs) : m = n := L.tot (k.2 m h.1) (h.2 n k.1)
theorem best1_max : ∀ (xs : List α) (b : α), IsMax l (best1 true l b xs) (b :: xs)
  | [], b => ⟨List.mem_cons_self, fun y hy => by rw [List.mem_singleton.mp hy]; exact L.irr _⟩
  | x :: xs, b => by
    unfold best1
    rw [List.foldl_cons]
    simp only [if_true]
    cases e : l b x with
    | true =>
      simp only [if_true]
      obtain ⟨h1, h2⟩ := best1_max xs x
      refine ⟨List.mem_cons_of_mem _ h1, fun y hy => ?_⟩
      rcases List.mem_cons.mp hy with rfl | hy
      · have := h2 x List.mem_cons_self
        cases q : l (best1 true l x xs) y with
        | false => exact q
        | true => rw [L.tr q e] at this; cases this
      · exact h2 y hy
    | false =>
      simp only [Bool.false_eq_true, if_false]
      obtain ⟨h1, h2⟩ := best1_max xs b
      refine ⟨?_, fun y hy => ?_⟩
      · rcases List.mem_cons.mp h1 with h1 | h1
        · exact List.mem_cons.mpr (.inl h1)
        · exact List.mem_cons_of_mem _ (List.mem_cons_of_mem _ h1)
      · rcases List.mem_cons.mp hy with rfl | hy
        · exact h2 _ List.mem_cons_self
        · rcases List.mem_cons.mp hy with rfl | hy
          · exact le_le (l := l) e (h2 b List.mem_cons_self)
          · exact h2 y (List.mem_cons_of_mem _ hy)
theorem best1_min : ∀ (xs : List α) (b : α), IsMin l (best1 false l b xs) (b :: xs)
  | [], b => ⟨List.mem_cons_self, fun y hy => by rw [List.mem_singleton.mp hy]; exact L.irr _⟩
  | x :: xs, b => by
    unfold best1
    rw [List.foldl_cons]
    simp only [Bool.false_eq_true, if_false]
    cases e : l x b with
    | true =>
      simp only [if_true]
      obtain ⟨h1, h2⟩ := best1_min xs x
      refine ⟨List.mem_cons_of_mem _ h1, fun y hy => ?_⟩
      rcases List.mem_cons.mp hy with rfl | hy
      · have := h2 x List.mem_cons_self
        cases q : l y (best1 false l x xs) with
        | false => exact q
        | true => rw [L.tr e q] at this; cases this
      · exact h2 y hy
    | false =>
      simp only [Bool.false_eq_true, if_false]
      obtain ⟨h1, h2⟩ := best1_min xs b
      refine ⟨?_, fun y hy => ?_⟩
      · rcases List.mem_cons.mp h1 with h1 | h1
        · exact List.mem_cons.mpr (.inl h1)
        · exact List.mem_cons_of_mem _ (List.mem_cons_of_mem _ h1)
      · rcases List.mem_cons.mp hy with rfl | hy
        · exact h2 _ List.mem_cons_self
        · rcases List.mem_cons.mp hy with rfl | hy
          · exact le_le (l := l) (h2 b List.mem_cons_self) e
          · exact h2 y (List.mem_cons_of_mem _ hy)
def greatB (l : α → α → Bool) : List α → Option α
  | [] => none
  | x :: xs => some (best1 true l x xs)
def leastB (l : α → α → Bool) : List α → Option α
  | [] => none
  | x :: xs => some (best1 false l x xs)
theorem greatB_iff {xs : List α} {m : α} : greatB l xs = some m ↔ IsMax l m xs := by
  cases xs with
  | nil => exact ⟨fun h => (by cases h), fun h => (by have := h.1; simp at this)⟩
  | cons x xs =>
    constructor
    · intro h
      cases h
      exact best1_max xs x
    · intro h
      exact congrArg some ((best1_max xs x).uniq h)
theorem leastB_iff {xs : List α} {m : α} : leastB l xs = some m ↔ IsMin l m xs := by
  cases xs with
  | nil => exact ⟨fun h => (by cases h), fun h => (by have := h.1; simp at this)⟩
  | cons x xs =>
    constructor
    · intro h
      cases h
      exact best1_min xs x
    · intro h
      exact congrArg some ((best1_min xs x).uniq h)
theorem greatB_none {xs : List α} : greatB l xs = none ↔ xs = [] := by cases xs <;> simp [greatB]
theorem leastB_none {xs : List α} : leastB l xs = none ↔ xs = [] := by cases xs <;> simp [leastB]
theorem greatB_congr {a b : List α} (h : ∀ x, x ∈ a ↔ x ∈ b) : greatB l a = greatB l b := by
  cases e : greatB l a with
  | none =>
    rw [greatB_none] at e
    subst e
    have : b = [] := List.eq_nil_iff_forall_not_mem.mpr fun x hx => by have := (h x).mpr hx; simp at this
    rw [this]; rfl
  | some m =>
    rw [greatB_iff] at e
    exact (greatB_iff.mpr ⟨(h m).mp e.1, fun y hy => e.2 y ((h y).mpr hy)⟩).symm
theorem leastB_congr {a b : List α} (h : ∀ x, x ∈ a ↔ x ∈ b) : leastB l a = leastB l b := by
  cases e : leastB l a with
  | none =>
    rw [leastB_none] at e
    subst e
    have : b = [] := List.eq_nil_iff_forall_not_mem.mpr fun x hx => by have := (h x).mpr hx; simp at this
    rw [this]; rfl
  | some m =>
    rw [leastB_iff] at e
    exact (leastB_iff.mpr ⟨(h m).mp e.1, fun y hy => e.2 y ((h y).mpr hy)⟩).symm
theorem msort_pw (xs : List α) : (xs.mergeSort fun x y => !l y x).Pairwise fun x y => l y x = false := by
  have := List.pairwise_mergeSort (le := fun x y : α => !l y x) (fun a b c h k => by
    simp only [Bool.not_eq_true'] at *
    exact le_le h k) (fun a b => by
    simp only [Bool.or_eq_true, Bool.not_eq_true']
    cases e : l b a with
    | false => exact .inl rfl
    | true => exact .inr (lt_asym e)) xs
  exact this.imp fun h => by simpa using h
theorem atT_last (zs : List α) (z : α) : atT (zs ++ [z]) (-1) = some z := by
  have e : ((-1 : Int) + (((zs ++ [z]).length : Nat) : Int)).toNat = zs.length := by
    simp only [List.length_append, List.length_cons, List.length_nil]
    omega
  unfold atT L2.atI L2.ixN
  rw [if_neg (by decide), if_pos (by simp only [List.length_append, List.length_cons, List.length_nil]; omega), e]
  simp
/-- the last of the sorted ones -/
theorem sorted_last {xs : List α} (h : xs ≠ []) : atT (xs.mergeSort fun x y => !l y x) (-1) = greatB l xs := by
  have pm := List.mergeSort_perm xs fun x y => !l y x
  have pw := msort_pw (l := l) xs
  generalize xs.mergeSort (fun x y => !l y x) = ys at pm pw
  have hne : ys ≠ [] := fun e => h (by rw [e] at pm; exact List.nil_perm.mp pm)
  obtain ⟨zs, z, rfl⟩ : ∃ zs z, ys = zs ++ [z] := by
    rcases List.eq_nil_or_concat ys with e | ⟨zs, z, e⟩
    · exact absurd e hne
    · exact ⟨zs, z, by rw [e, List.concat_eq_append]⟩
  have e1 : atT (zs ++ [z]) (-1) = some z := atT_last zs z
  rw [e1]
  refine (greatB_iff.mpr ⟨pm.mem_iff.mp (by simp), fun y hy => ?_⟩).symm
  have hy := pm.mem_iff.mpr hy
  rcases List.mem_append.mp hy with hy | hy
  · exact (List.pairwise_append.mp pw).2.2 y hy z List.mem_cons_self
  · rw [List.mem_singleton.mp hy]; exact L.irr _
/-- the first of the sorted ones -/
theorem sorted_first {xs : List α} (h : xs ≠ []) : atT (xs.mergeSort fun x y => !l y x) 0 = leastB l xs := by
  have pm := List.mergeSort_perm xs fun x y => !l y x
  have pw := msort_pw (l := l) xs
  generalize xs.mergeSort (fun x y => !l y x) = ys at pm pw
  cases ys with
  | nil => exact absurd (List.nil_perm.mp pm) h
  | cons z zs =>
    have e1 : atT (z :: zs) 0 = some z := atT_nat (j := 0) rfl
    rw [e1]
    refine (leastB_iff.mpr ⟨pm.mem_iff.mp (by simp), fun y hy => ?_⟩).symm
    have hy := pm.mem_iff.mpr hy
    rcases List.mem_cons.mp hy with rfl | hy
    · exact L.irr _
    · exact (List.pairwise_cons.mp pw).1 y hy
end
/-! ### choices -/
def choiceB (r : Range) (vs : List Ver) (rule : Tx) : Option Ver :=
  let some := vs.filter fun v => allowB r v (decide (rule = x_plain))
  let rel := some.filter fun v => decide (v.2 = [])
  greatB vlt (if rel = [] then some else rel)
theorem best_key (mx : Bool) (x : Ver) (xs : List Ver) : bestT mx t_key (lt3 (lt3 ltI ltI ltI) ltI (ltL (lt3 ltI ltI ltB))) (x :: xs) = some (best1 mx vlt x xs) := bestT_all t_key_eq mx x xs
theorem lawKey_sort (xs : List Ver) : srtT t__law_key (ltP (lt3 ltI ltI ltI) (ltL (lt3 ltI ltI ltB))) xs = some (xs.mergeSort fun x y => !vlt y x) := by
  rw [srtT_all t__law_key_eq]
  simp only [lawKey_lt]
theorem t_choice_eq {r : Range} (hr : RangeOk r) {vs : List Ver} (hv : ∀ v ∈ vs, WellV v) (rule : Tx) : t_choice r vs rule = some (choiceB r vs rule) := by
  unfold t_choice
  simp only [bnd_ret]
  rw [filT_of (q := fun v => allowB r v (decide (rule = x_plain))) (g := fun v => v) vs (fun v hv' => by simp only [bnd_ret, bnd_ret_r, bnd_assoc, lift_some, run_ret, ite_ret, bool_and, bool_or, mapT_ret, filT_ret, flatT_ret, filT_id, mapT_id, outT_inr, outT_inl, fit0, fit1, fit2, fit3, fit4, fit5, fit6, fit7, fit8, fit9, fit10, fit11, fit12, t_allows_eq hr (hv v hv')]) fun v _ _ => rfl]
  simp only [bnd_ret, bnd_ret_r, bnd_assoc, lift_some, run_ret, ite_ret, bool_and, bool_or, mapT_ret, filT_ret, flatT_ret, filT_id, mapT_id, outT_inr, outT_inl, fit0, fit1, fit2, fit3, fit4, fit5, fit6, fit7, fit8, fit9, fit10, fit11, fit12, List.map_id']
  unfold choiceB
  simp only []
  generalize vs.filter (fun v => allowB r v (decide (rule = x_plain))) = some1
  have e : (if (!decide ((some1.filter fun v => decide (v.2 = [])) = [])) = true then some1.filter (fun v => decide (v.2 = [])) else some1) = (if (some1.filter fun v => decide (v.2 = [])) = [] then some1 else some1.filter fun v => decide (v.2 = [])) := by
    by_cases h : (some1.filter fun v => decide (v.2 = [])) = []
    · simp [h]
    · simp [h]
  rw [e]
  generalize (if (some1.filter fun v => decide (v.2 = [])) = [] then some1 else some1.filter fun v => decide (v.2 = [])) = zs
  cases zs with
  | nil => rfl
  | cons z zs =>
    rw [best_key]
    rfl
theorem t__law_choice_eq {r : Range} (hr : RangeOk r) {vs : List Ver} (hv : ∀ v ∈ vs, WellV v) (rule : Tx) : t__law_choice r vs rule = some (choiceB r vs rule) := by
  unfold t__law_choice
  simp only [bnd_ret]
  rw [filT_of (q := fun v => allowB r v (decide (rule = x_plain))) (g := fun v => v) vs (fun v hv' => by simp only [bnd_ret, bnd_ret_r, bnd_assoc, lift_some, run_ret, ite_ret, bool_and, bool_or, mapT_ret, filT_ret, flatT_ret, filT_id, mapT_id, outT_inr, outT_inl, fit0, fit1, fit2, fit3, fit4, fit5, fit6, fit7, fit8, fit9, fit10, fit11, fit12, t__law_allowed_eq hr (hv v hv')]) fun v _ _ => rfl]
  simp only [bnd_ret, bnd_ret_r, bnd_assoc, lift_some, run_ret, ite_ret, bool_and, bool_or, mapT_ret, filT_ret, flatT_ret, filT_id, mapT_id, outT_inr, outT_inl, fit0, fit1, fit2, fit3, fit4, fit5, fit6, fit7, fit8, fit9, fit10, fit11, fit12, List.map_id']
  unfold choiceB
  simp only []
  generalize vs.filter (fun v => allowB r v (decide (rule = x_plain))) = some1
  have e : (if (!decide ((some1.filter fun v => decide (v.2 = [])) = [])) = true then some1.filter (fun v => decide (v.2 = [])) else some1) = (if (some1.filter fun v => decide (v.2 = [])) = [] then some1 else some1.filter fun v => decide (v.2 = [])) := by
    by_cases h : (some1.filter fun v => decide (v.2 = [])) = []
    · simp [h]
    · simp [h]
  rw [e]
  generalize (if (some1.filter fun v => decide (v.2 = [])) = [] then some1 else some1.filter fun v => decide (v.2 = [])) = zs
  cases zs with
  | nil => rfl
  | cons z zs =>
    rw [lawKey_sort, lift_some, bnd_ret]
    have := sorted_last (l := vlt) (xs := z :: zs) (by simp)
    rw [show (-1 : Int) = -1 from rfl, this]
    rfl
theorem choiceB_congr {r : Range} {a b : List Ver} (rule : Tx) (h : ∀ x, x ∈ a ↔ x ∈ b) : choiceB r a rule = choiceB r b rule := by
  unfold choiceB
  simp only []
  have h1 : ∀ x, x ∈ (a.filter fun v => allowB r v (decide (rule = x_plain))) ↔ x ∈ (b.filter fun v => allowB r v (decide (rule = x_plain))) := fun x => by simp [h]
  have h2 : ∀ x, x ∈ ((a.filter fun v => allowB r v (decide (rule = x_plain))).filter fun v => decide (v.2 = [])) ↔ x ∈ ((b.filter fun v => allowB r v (decide (rule = x_plain))).filter fun v => decide (v.2 = [])) := fun x => by simp [h]
  have h3 : ((a.filter fun v => allowB r v (decide (rule = x_plain))).filter fun v => decide (v.2 = [])) = [] ↔ ((b.filter fun v => allowB r v (decide (rule = x_plain))).filter fun v => decide (v.2 = [])) = [] := by
    rw [List.eq_nil_iff_forall_not_mem, List.eq_nil_iff_forall_not_mem]
    exact ⟨fun k x hx => k x ((h2 x).mpr hx), fun k x hx => k x ((h2 x).mp hx)⟩
  by_cases e : ((a.filter fun v => allowB r v (decide (rule = x_plain))).filter fun v => decide (v.2 = [])) = []
  · rw [if_pos e, if_pos (h3.mp e)]
    exact greatB_congr h1
  · rw [if_neg e, if_neg (fun z => e (h3.mpr z))]
    exact greatB_congr h2
theorem choiceB_mem {r : Range} {vs : List Ver} {rule : Tx} {v : Ver} (h : choiceB r vs rule = some v) : v ∈ vs ∧ allowB r v (decide (rule = x_plain)) = true := by
  unfold choiceB at h
  simp only [] at h
  have := (greatB_iff.mp h).1
  split at this
  · exact List.mem_filter.mp this
  · exact List.mem_filter.mp (List.mem_filter.mp this).1
end Ev

set_option Elab.async false
set_option linter.all false
set_option maxRecDepth 100000
set_option maxHeartbeats 4000000
namespace Ev
open PySem
/-! R21: law k21. -/
instance [DecidableEq α] {a : Enc α} [h : LkE a] [n : NnE a] : LkE (eO a) := ⟨fun x y => by
  cases x with
  | none => cases y with
    | none => exact (show likeD .none .none = true by decide).trans (decide_eq_true rfl).symm
    | some y =>
      have : likeD .none (a y) = false := by
        have := n.nn y
        cases hd : a y <;> first | (exact absurd hd this) | rfl
      show likeD .none (a y) = _
      rw [this]
      simp
  | some x => cases y with
    | none =>
      have : likeD (a x) .none = false := by
        have := n.nn x
        cases hd : a x <;> first | (exact absurd hd this) | rfl
      show likeD (a x) .none = _
      rw [this]
      simp
    | some y => rw [show eO a (some x) = a x from rfl, show eO a (some y) = a y from rfl, h.lk]; simp⟩
theorem short_O {a : Enc α} {x : Option α} (h : ∀ y, x = some y → short (a y) = true) : short (eO a x) = true := by
  cases x with
  | none => rfl
  | some y => exact h y rfl
theorem short_choice {r : Range} {vs : List Ver} {rule : Tx} (hv : ∀ v ∈ vs, WellV v) : short (eO eV (choiceB r vs rule)) = true :=
  short_O fun v hc => short_V v (Nat.le_trans (hv v (choiceB_mem hc).1).2.2 (by decide))
theorem k21_true (ns : List Int) (hn : ns.length ≤ 63) : t_law_k21 ns = some true := by
  unfold t_law_k21
  refine run_tape ?_
  simp only [bnd_ret, bnd_ret_r, bnd_assoc, lift_some, run_ret, ite_ret, bool_and, bool_or, mapT_ret, filT_ret, flatT_ret, filT_id, mapT_id, outT_inr, outT_inl, fit0, fit1, fit2, fit3, fit4, fit5, fit6, fit7, fit8, fit9, fit10, fit11, fit12, ok_bnd, ok_needT, ok_ret, ok_lift]
  refine ⟨_, rangeT_ok (n := 30) (by decide), ?_⟩
  refine (okT_for (fun _ t => Drawn t) _ _ _ (drawn0 hn) fun x hx s t ht => ?_).mono ?_
  · simp only [bnd_ret, bnd_ret_r, bnd_assoc, lift_some, run_ret, ite_ret, bool_and, bool_or, mapT_ret, filT_ret, flatT_ret, filT_id, mapT_id, outT_inr, outT_inl, fit0, fit1, fit2, fit3, fit4, fit5, fit6, fit7, fit8, fit9, fit10, fit11, fit12, ok_bnd, ok_needT, ok_ret, ok_lift]
    refine ⟨ht.ne, ht.ne, (ok_range ht (by decide) (by decide)).mono ?_⟩
    rintro r t1 ⟨hr, h1⟩
    refine ⟨h1.ne, h1.ne, (ok_rule h1).mono ?_⟩
    rintro rule t2 ⟨hrule, h2⟩
    refine ⟨h2.ne, h2.ne, (ok_draw h2 (by decide) (by decide)).mono ?_⟩
    rintro a t3 ⟨a1, a2, h3⟩
    obtain ⟨m, rfl, hm⟩ : ∃ m : Nat, a = m ∧ m < 9 := ⟨a.toNat, by omega, by omega⟩
    refine ⟨_, rangeT_ok (by simp only [big]; omega), ?_⟩
    refine (okT_foldN (fun i (s : List Ver) t => (s.length ≤ i ∧ ∀ v ∈ s, WellV v) ∧ Drawn t) _ 0 _ _ ⟨⟨Nat.le_refl _, by simp⟩, h3⟩ fun y hy i s t hi hI => ?_).mono ?_
    · obtain ⟨⟨k1, k2⟩, h4⟩ := hI
      rw [List.length_map, List.length_range] at hi
      simp only [bnd_ret, bnd_ret_r, bnd_assoc, lift_some, run_ret, ite_ret, bool_and, bool_or, mapT_ret, filT_ret, flatT_ret, filT_id, mapT_id, outT_inr, outT_inl, fit0, fit1, fit2, fit3, fit4, fit5, fit6, fit7, fit8, fit9, fit10, fit11, fit12, ok_bnd, ok_needT, ok_ret, ok_lift]
      refine ⟨h4.ne, h4.ne, (ok_version h4 (by decide) (by decide)).mono ?_⟩
      rintro v t4 ⟨hv, h5⟩
      split
      · rw [catT_ok (by simp only [big, List.length_cons, List.length_nil]; omega), lift_some]
        refine ok_ret.mpr ⟨⟨by simp only [List.length_append, List.length_cons, List.length_nil]; omega, fun q hq => ?_⟩, h5⟩
        rcases List.mem_append.mp hq with h | h
        · exact k2 q h
        · rw [List.mem_singleton.mp h]; exact hv.well
      · exact ok_ret.mpr ⟨⟨by omega, k2⟩, h5⟩
    · rintro vs t4 ⟨⟨k1, k2⟩, h4⟩
      have kr : ∀ v ∈ vs.reverse, WellV v := fun v hv => k2 v (by simpa using hv)
      rw [t_choice_eq hr.ok k2 rule, t__law_choice_eq hr.ok k2 rule, t_choice_eq hr.ok kr rule, choiceB_congr (a := vs.reverse) (b := vs) rule (fun x => by simp)]
      refine ⟨_, rfl, _, rfl, _, like_eq (a := eO eV) (by decide) (short_choice k2), ?_⟩
      simp only [decide_true, Bool.not_true, Bool.false_eq_true, if_false]
      simp only [bnd_ret, bnd_ret_r, bnd_assoc, lift_some, run_ret, ite_ret, bool_and, bool_or, mapT_ret, filT_ret, flatT_ret, filT_id, mapT_id, outT_inr, outT_inl, fit0, fit1, fit2, fit3, fit4, fit5, fit6, fit7, fit8, fit9, fit10, fit11, fit12, ok_bnd, ok_needT, ok_ret, ok_lift]
      exact ⟨(), rfl, h4⟩
  · rintro o t2 ⟨s, rfl, h2⟩
    exact .mk (a := true) (t' := t2) (by kernel_rfl) rfl
end Ev

namespace Lk21
open PySem PySem.Spec PyProof.Rows L2 Ev
def top (i : Nat) : Stmt := PySem.Challenge.pw_versionspans_k21_published_versions_chos.main.body.getD i (.Pass ⟨0, 0, 0, 0⟩)
def r_item_key : Ev.Row := ⟨2, "item_key", ["item"], ["item"], none, Ev.d_item_key⟩
def r_key : Ev.Row := ⟨3, "key", ["version", "numbers", "tail", "item"], ["version"], none, Ev.d_key⟩
def r_before : Ev.Row := ⟨4, "before", ["one", "other"], ["one", "other"], none, Ev.d_before⟩
def r_raised : Ev.Row := ⟨5, "raised", ["numbers", "major", "minor", "patch"], ["numbers"], none, Ev.d_raised⟩
def r_next_version : Ev.Row := ⟨6, "next_version", ["version", "numbers", "tail"], ["version"], none, Ev.d_next_version⟩
def r_stepped : Ev.Row := ⟨7, "stepped", ["numbers", "step", "major", "minor", "patch"], ["numbers", "step"], none, Ev.d_stepped⟩
def r_ceiling : Ev.Row := ⟨9, "ceiling", ["numbers", "major", "minor", "patch"], ["numbers"], none, Ev.d_ceiling⟩
def r_star_bounds : Ev.Row := ⟨10, "star_bounds", ["numbers", "full"], ["numbers"], none, Ev.d_star_bounds⟩
def r_part_bounds : Ev.Row := ⟨11, "part_bounds", ["part", "sign", "own"], ["part"], none, Ev.d_part_bounds⟩
def r_bounds : Ev.Row := ⟨12, "bounds", ["parts", "low", "high", "part", "first", "last"], ["parts"], none, Ev.d_bounds⟩
def r_named : Ev.Row := ⟨13, "named", ["parts", "sign", "own"], ["parts"], none, Ev.d_named⟩
def r_is_between : Ev.Row := ⟨14, "is_between", ["version", "low", "high"], ["version", "low", "high"], none, Ev.d_is_between⟩
def r_allows : Ev.Row := ⟨15, "allows", ["spans", "version", "rule", "parts", "low", "high"], ["spans", "version", "rule"], none, Ev.d_allows⟩
def r_choice : Ev.Row := ⟨17, "choice", ["spans", "versions", "rule", "some", "releases", "version"], ["spans", "versions", "rule"], none, Ev.d_choice⟩
def r__law_draw : Ev.Row := ⟨19, "_law_draw", ["tape", "many", "prime", "cell", "found"], ["tape", "many"], (some 0), Ev.d__law_draw⟩
def r__law_like : Ev.Row := ⟨20, "_law_like", ["one", "two", "k"], ["one", "two"], none, Ev.d__law_like⟩
def r__law_item_key : Ev.Row := ⟨21, "_law_item_key", ["item"], ["item"], none, Ev.d__law_item_key⟩
def r__law_key : Ev.Row := ⟨22, "_law_key", ["version", "tail", "item"], ["version"], none, Ev.d__law_key⟩
def r__law_more : Ev.Row := ⟨23, "_law_more", ["numbers"], ["numbers"], none, Ev.d__law_more⟩
def r__law_tail : Ev.Row := ⟨24, "_law_tail", ["tape", "found", "turn"], ["tape"], (some 0), Ev.d__law_tail⟩
def r__law_numbers : Ev.Row := ⟨25, "_law_numbers", ["tape", "most"], ["tape", "most"], (some 0), Ev.d__law_numbers⟩
def r__law_version : Ev.Row := ⟨26, "_law_version", ["tape", "most"], ["tape", "most"], (some 0), Ev.d__law_version⟩
def r__law_part : Ev.Row := ⟨27, "_law_part", ["tape", "most", "sign"], ["tape", "most"], (some 0), Ev.d__law_part⟩
def r__law_range : Ev.Row := ⟨28, "_law_range", ["tape", "most", "found", "turn", "parts", "many"], ["tape", "most"], (some 0), Ev.d__law_range⟩
def r__law_rule : Ev.Row := ⟨29, "_law_rule", ["tape"], ["tape"], (some 0), Ev.d__law_rule⟩
def r__law_top : Ev.Row := ⟨30, "_law_top", ["sign", "numbers"], ["sign", "numbers"], none, Ev.d__law_top⟩
def r__law_concerns : Ev.Row := ⟨31, "_law_concerns", ["part", "version", "sign", "own", "here", "there", "good"], ["part", "version"], none, Ev.d__law_concerns⟩
def r__law_allowed : Ev.Row := ⟨32, "_law_allowed", ["spans", "version", "rule", "parts", "own", "part"], ["spans", "version", "rule"], none, Ev.d__law_allowed⟩
def r__law_choice : Ev.Row := ⟨33, "_law_choice", ["spans", "versions", "rule", "some", "version"], ["spans", "versions", "rule"], none, Ev.d__law_choice⟩
def r_law : Ev.Row := ⟨34, "law", ["script", "tape", "turn", "spans", "rule", "versions", "many", "version", "caret", "some"], ["script"], (some 1), Ev.d_law_k21⟩
def T : Tab := [r_item_key, r_key, r_before, r_raised, r_next_version, r_stepped, r_ceiling, r_star_bounds, r_part_bounds, r_bounds, r_named, r_is_between, r_allows, r_choice, r__law_draw, r__law_like, r__law_item_key, r__law_key, r__law_more, r__law_tail, r__law_numbers, r__law_version, r__law_part, r__law_range, r__law_rule, r__law_top, r__law_concerns, r__law_allowed, r__law_choice, r_law]
def gs : List Str := ["FIRST"]
def G : Str → Option PyData := fun x => if x = "FIRST" then some (.tuple [(.tuple [(.int 0), (.int 0), (.int 0)]), (.tuple [(.int 0)])]) else none
def fuel : Nat := 12
theorem hyp : Ev.H_law_k21 T.P G := by
  repeat' (first | exact (by rfl) | refine ⟨?_, ?_⟩)
theorem plain : Plain T G (fuel + 1) := fun ns hn => by
  obtain ⟨t, h⟩ := Ev.w_law_k21 hyp 0 ns true (Ev.k21_true ns hn)
  exact ⟨t, h⟩

theorem ok_item_key : T.get r_item_key.name = some r_item_key ∧ rowOk T gs r_item_key (defScope (top r_item_key.ix)) (defBody (top r_item_key.ix)) = true := ⟨by kernel_rfl, by kernel_rfl⟩
def dd_item_key : He.DefD := ⟨("item_key", none), "item_key", "item_key", defArgs (top r_item_key.ix), defBody (top r_item_key.ix), defScope (top r_item_key.ix), [], []⟩
theorem ok_key : T.get r_key.name = some r_key ∧ rowOk T gs r_key (defScope (top r_key.ix)) (defBody (top r_key.ix)) = true := ⟨by kernel_rfl, by kernel_rfl⟩
def dd_key : He.DefD := ⟨("key", none), "key", "key", defArgs (top r_key.ix), defBody (top r_key.ix), defScope (top r_key.ix), [], []⟩
theorem ok_before : T.get r_before.name = some r_before ∧ rowOk T gs r_before (defScope (top r_before.ix)) (defBody (top r_before.ix)) = true := ⟨by kernel_rfl, by kernel_rfl⟩
def dd_before : He.DefD := ⟨("before", none), "before", "before", defArgs (top r_before.ix), defBody (top r_before.ix), defScope (top r_before.ix), [], []⟩
theorem ok_raised : T.get r_raised.name = some r_raised ∧ rowOk T gs r_raised (defScope (top r_raised.ix)) (defBody (top r_raised.ix)) = true := ⟨by kernel_rfl, by kernel_rfl⟩
def dd_raised : He.DefD := ⟨("raised", none), "raised", "raised", defArgs (top r_raised.ix), defBody (top r_raised.ix), defScope (top r_raised.ix), [], []⟩
theorem ok_next_version : T.get r_next_version.name = some r_next_version ∧ rowOk T gs r_next_version (defScope (top r_next_version.ix)) (defBody (top r_next_version.ix)) = true := ⟨by kernel_rfl, by kernel_rfl⟩
def dd_next_version : He.DefD := ⟨("next_version", none), "next_version", "next_version", defArgs (top r_next_version.ix), defBody (top r_next_version.ix), defScope (top r_next_version.ix), [], []⟩
theorem ok_stepped : T.get r_stepped.name = some r_stepped ∧ rowOk T gs r_stepped (defScope (top r_stepped.ix)) (defBody (top r_stepped.ix)) = true := ⟨by kernel_rfl, by kernel_rfl⟩
def dd_stepped : He.DefD := ⟨("stepped", none), "stepped", "stepped", defArgs (top r_stepped.ix), defBody (top r_stepped.ix), defScope (top r_stepped.ix), [], []⟩
theorem ok_ceiling : T.get r_ceiling.name = some r_ceiling ∧ rowOk T gs r_ceiling (defScope (top r_ceiling.ix)) (defBody (top r_ceiling.ix)) = true := ⟨by kernel_rfl, by kernel_rfl⟩
def dd_ceiling : He.DefD := ⟨("ceiling", none), "ceiling", "ceiling", defArgs (top r_ceiling.ix), defBody (top r_ceiling.ix), defScope (top r_ceiling.ix), [], []⟩
theorem ok_star_bounds : T.get r_star_bounds.name = some r_star_bounds ∧ rowOk T gs r_star_bounds (defScope (top r_star_bounds.ix)) (defBody (top r_star_bounds.ix)) = true := ⟨by kernel_rfl, by kernel_rfl⟩
def dd_star_bounds : He.DefD := ⟨("star_bounds", none), "star_bounds", "star_bounds", defArgs (top r_star_bounds.ix), defBody (top r_star_bounds.ix), defScope (top r_star_bounds.ix), [], []⟩
theorem ok_part_bounds : T.get r_part_bounds.name = some r_part_bounds ∧ rowOk T gs r_part_bounds (defScope (top r_part_bounds.ix)) (defBody (top r_part_bounds.ix)) = true := ⟨by kernel_rfl, by kernel_rfl⟩
def dd_part_bounds : He.DefD := ⟨("part_bounds", none), "part_bounds", "part_bounds", defArgs (top r_part_bounds.ix), defBody (top r_part_bounds.ix), defScope (top r_part_bounds.ix), [], []⟩
theorem ok_bounds : T.get r_bounds.name = some r_bounds ∧ rowOk T gs r_bounds (defScope (top r_bounds.ix)) (defBody (top r_bounds.ix)) = true := ⟨by kernel_rfl, by kernel_rfl⟩
def dd_bounds : He.DefD := ⟨("bounds", none), "bounds", "bounds", defArgs (top r_bounds.ix), defBody (top r_bounds.ix), defScope (top r_bounds.ix), [], []⟩
theorem ok_named : T.get r_named.name = some r_named ∧ rowOk T gs r_named (defScope (top r_named.ix)) (defBody (top r_named.ix)) = true := ⟨by kernel_rfl, by kernel_rfl⟩
def dd_named : He.DefD := ⟨("named", none), "named", "named", defArgs (top r_named.ix), defBody (top r_named.ix), defScope (top r_named.ix), [], []⟩
theorem ok_is_between : T.get r_is_between.name = some r_is_between ∧ rowOk T gs r_is_between (defScope (top r_is_between.ix)) (defBody (top r_is_between.ix)) = true := ⟨by kernel_rfl, by kernel_rfl⟩
def dd_is_between : He.DefD := ⟨("is_between", none), "is_between", "is_between", defArgs (top r_is_between.ix), defBody (top r_is_between.ix), defScope (top r_is_between.ix), [], []⟩
theorem ok_allows : T.get r_allows.name = some r_allows ∧ rowOk T gs r_allows (defScope (top r_allows.ix)) (defBody (top r_allows.ix)) = true := ⟨by kernel_rfl, by kernel_rfl⟩
def dd_allows : He.DefD := ⟨("allows", none), "allows", "allows", defArgs (top r_allows.ix), defBody (top r_allows.ix), defScope (top r_allows.ix), [], []⟩
theorem ok_choice : T.get r_choice.name = some r_choice ∧ rowOk T gs r_choice (defScope (top r_choice.ix)) (defBody (top r_choice.ix)) = true := ⟨by kernel_rfl, by kernel_rfl⟩
def dd_choice : He.DefD := ⟨("choice", none), "choice", "choice", defArgs (top r_choice.ix), defBody (top r_choice.ix), defScope (top r_choice.ix), [], []⟩
theorem ok__law_draw : T.get r__law_draw.name = some r__law_draw ∧ rowOk T gs r__law_draw (defScope (top r__law_draw.ix)) (defBody (top r__law_draw.ix)) = true := ⟨by kernel_rfl, by kernel_rfl⟩
def dd__law_draw : He.DefD := ⟨("_law_draw", none), "_law_draw", "_law_draw", defArgs (top r__law_draw.ix), defBody (top r__law_draw.ix), defScope (top r__law_draw.ix), [], []⟩
theorem ok__law_like : T.get r__law_like.name = some r__law_like ∧ rowOk T gs r__law_like (defScope (top r__law_like.ix)) (defBody (top r__law_like.ix)) = true := ⟨by kernel_rfl, by kernel_rfl⟩
def dd__law_like : He.DefD := ⟨("_law_like", none), "_law_like", "_law_like", defArgs (top r__law_like.ix), defBody (top r__law_like.ix), defScope (top r__law_like.ix), [], []⟩
theorem ok__law_item_key : T.get r__law_item_key.name = some r__law_item_key ∧ rowOk T gs r__law_item_key (defScope (top r__law_item_key.ix)) (defBody (top r__law_item_key.ix)) = true := ⟨by kernel_rfl, by kernel_rfl⟩
def dd__law_item_key : He.DefD := ⟨("_law_item_key", none), "_law_item_key", "_law_item_key", defArgs (top r__law_item_key.ix), defBody (top r__law_item_key.ix), defScope (top r__law_item_key.ix), [], []⟩
theorem ok__law_key : T.get r__law_key.name = some r__law_key ∧ rowOk T gs r__law_key (defScope (top r__law_key.ix)) (defBody (top r__law_key.ix)) = true := ⟨by kernel_rfl, by kernel_rfl⟩
def dd__law_key : He.DefD := ⟨("_law_key", none), "_law_key", "_law_key", defArgs (top r__law_key.ix), defBody (top r__law_key.ix), defScope (top r__law_key.ix), [], []⟩
theorem ok__law_more : T.get r__law_more.name = some r__law_more ∧ rowOk T gs r__law_more (defScope (top r__law_more.ix)) (defBody (top r__law_more.ix)) = true := ⟨by kernel_rfl, by kernel_rfl⟩
def dd__law_more : He.DefD := ⟨("_law_more", none), "_law_more", "_law_more", defArgs (top r__law_more.ix), defBody (top r__law_more.ix), defScope (top r__law_more.ix), [], []⟩
theorem ok__law_tail : T.get r__law_tail.name = some r__law_tail ∧ rowOk T gs r__law_tail (defScope (top r__law_tail.ix)) (defBody (top r__law_tail.ix)) = true := ⟨by kernel_rfl, by kernel_rfl⟩
def dd__law_tail : He.DefD := ⟨("_law_tail", none), "_law_tail", "_law_tail", defArgs (top r__law_tail.ix), defBody (top r__law_tail.ix), defScope (top r__law_tail.ix), [], []⟩
theorem ok__law_numbers : T.get r__law_numbers.name = some r__law_numbers ∧ rowOk T gs r__law_numbers (defScope (top r__law_numbers.ix)) (defBody (top r__law_numbers.ix)) = true := ⟨by kernel_rfl, by kernel_rfl⟩
def dd__law_numbers : He.DefD := ⟨("_law_numbers", none), "_law_numbers", "_law_numbers", defArgs (top r__law_numbers.ix), defBody (top r__law_numbers.ix), defScope (top r__law_numbers.ix), [], []⟩
theorem ok__law_version : T.get r__law_version.name = some r__law_version ∧ rowOk T gs r__law_version (defScope (top r__law_version.ix)) (defBody (top r__law_version.ix)) = true := ⟨by kernel_rfl, by kernel_rfl⟩
def dd__law_version : He.DefD := ⟨("_law_version", none), "_law_version", "_law_version", defArgs (top r__law_version.ix), defBody (top r__law_version.ix), defScope (top r__law_version.ix), [], []⟩
theorem ok__law_part : T.get r__law_part.name = some r__law_part ∧ rowOk T gs r__law_part (defScope (top r__law_part.ix)) (defBody (top r__law_part.ix)) = true := ⟨by kernel_rfl, by kernel_rfl⟩
def dd__law_part : He.DefD := ⟨("_law_part", none), "_law_part", "_law_part", defArgs (top r__law_part.ix), defBody (top r__law_part.ix), defScope (top r__law_part.ix), [], []⟩
theorem ok__law_range : T.get r__law_range.name = some r__law_range ∧ rowOk T gs r__law_range (defScope (top r__law_range.ix)) (defBody (top r__law_range.ix)) = true := ⟨by kernel_rfl, by kernel_rfl⟩
def dd__law_range : He.DefD := ⟨("_law_range", none), "_law_range", "_law_range", defArgs (top r__law_range.ix), defBody (top r__law_range.ix), defScope (top r__law_range.ix), [], []⟩
theorem ok__law_rule : T.get r__law_rule.name = some r__law_rule ∧ rowOk T gs r__law_rule (defScope (top r__law_rule.ix)) (defBody (top r__law_rule.ix)) = true := ⟨by kernel_rfl, by kernel_rfl⟩
def dd__law_rule : He.DefD := ⟨("_law_rule", none), "_law_rule", "_law_rule", defArgs (top r__law_rule.ix), defBody (top r__law_rule.ix), defScope (top r__law_rule.ix), [], []⟩
theorem ok__law_top : T.get r__law_top.name = some r__law_top ∧ rowOk T gs r__law_top (defScope (top r__law_top.ix)) (defBody (top r__law_top.ix)) = true := ⟨by kernel_rfl, by kernel_rfl⟩
def dd__law_top : He.DefD := ⟨("_law_top", none), "_law_top", "_law_top", defArgs (top r__law_top.ix), defBody (top r__law_top.ix), defScope (top r__law_top.ix), [], []⟩
theorem ok__law_concerns : T.get r__law_concerns.name = some r__law_concerns ∧ rowOk T gs r__law_concerns (defScope (top r__law_concerns.ix)) (defBody (top r__law_concerns.ix)) = true := ⟨by kernel_rfl, by kernel_rfl⟩
def dd__law_concerns : He.DefD := ⟨("_law_concerns", none), "_law_concerns", "_law_concerns", defArgs (top r__law_concerns.ix), defBody (top r__law_concerns.ix), defScope (top r__law_concerns.ix), [], []⟩
theorem ok__law_allowed : T.get r__law_allowed.name = some r__law_allowed ∧ rowOk T gs r__law_allowed (defScope (top r__law_allowed.ix)) (defBody (top r__law_allowed.ix)) = true := ⟨by kernel_rfl, by kernel_rfl⟩
def dd__law_allowed : He.DefD := ⟨("_law_allowed", none), "_law_allowed", "_law_allowed", defArgs (top r__law_allowed.ix), defBody (top r__law_allowed.ix), defScope (top r__law_allowed.ix), [], []⟩
theorem ok__law_choice : T.get r__law_choice.name = some r__law_choice ∧ rowOk T gs r__law_choice (defScope (top r__law_choice.ix)) (defBody (top r__law_choice.ix)) = true := ⟨by kernel_rfl, by kernel_rfl⟩
def dd__law_choice : He.DefD := ⟨("_law_choice", none), "_law_choice", "_law_choice", defArgs (top r__law_choice.ix), defBody (top r__law_choice.ix), defScope (top r__law_choice.ix), [], []⟩
theorem ok_law : T.get r_law.name = some r_law ∧ rowOk T gs r_law (defScope (top r_law.ix)) (defBody (top r_law.ix)) = true := ⟨by kernel_rfl, by kernel_rfl⟩
def dd_law : He.DefD := ⟨("law", none), "law", "law", defArgs (top r_law.ix), defBody (top r_law.ix), defScope (top r_law.ix), [], []⟩
theorem ok_all : ∀ r ∈ T, T.get r.name = some r ∧ rowOk T gs r (defScope (top r.ix)) (defBody (top r.ix)) = true := by
  intro r hr
  simp only [T, List.mem_cons, List.not_mem_nil, or_false] at hr
  rcases hr with rfl | rfl | rfl | rfl | rfl | rfl | rfl | rfl | rfl | rfl | rfl | rfl | rfl | rfl | rfl | rfl | rfl | rfl | rfl | rfl | rfl | rfl | rfl | rfl | rfl | rfl | rfl | rfl | rfl | rfl
  · exact ok_item_key
  · exact ok_key
  · exact ok_before
  · exact ok_raised
  · exact ok_next_version
  · exact ok_stepped
  · exact ok_ceiling
  · exact ok_star_bounds
  · exact ok_part_bounds
  · exact ok_bounds
  · exact ok_named
  · exact ok_is_between
  · exact ok_allows
  · exact ok_choice
  · exact ok__law_draw
  · exact ok__law_like
  · exact ok__law_item_key
  · exact ok__law_key
  · exact ok__law_more
  · exact ok__law_tail
  · exact ok__law_numbers
  · exact ok__law_version
  · exact ok__law_part
  · exact ok__law_range
  · exact ok__law_rule
  · exact ok__law_top
  · exact ok__law_concerns
  · exact ok__law_allowed
  · exact ok__law_choice
  · exact ok_law
def fn : List He.DefD := [dd_item_key, dd_key, dd_before, dd_raised, dd_next_version, dd_stepped, dd_ceiling, dd_star_bounds, dd_part_bounds, dd_bounds, dd_named, dd_is_between, dd_allows, dd_choice, dd__law_draw, dd__law_like, dd__law_item_key, dd__law_key, dd__law_more, dd__law_tail, dd__law_numbers, dd__law_version, dd__law_part, dd__law_range, dd__law_rule, dd__law_top, dd__law_concerns, dd__law_allowed, dd__law_choice, dd_law]
def cs : List (Str × PyData) := [("FIRST", (.tuple [(.tuple [(.int 0), (.int 0), (.int 0)]), (.tuple [(.int 0)])]))]
def fa0 : List He.Fa := [.glo "item_key", .glo "key", .glo "before", .glo "raised", .glo "next_version", .glo "stepped", .glo "ceiling", .glo "star_bounds", .glo "part_bounds", .glo "bounds", .glo "named", .glo "is_between", .glo "allows", .glo "choice", .glo "_law_draw", .glo "_law_like", .glo "_law_item_key", .glo "_law_key", .glo "_law_more", .glo "_law_tail", .glo "_law_numbers", .glo "_law_version", .glo "_law_part", .glo "_law_range", .glo "_law_rule", .glo "_law_top", .glo "_law_concerns", .glo "_law_allowed", .glo "_law_choice", .glo "law"]
def fa : List He.Fa := fa0 ++ BN.map He.Fa.free
abbrev Rw : PySem.W.OpenRow := PySem.W.OpenLaw.row PySem.Challenge.rw_versionspans_k21_published_versions_chos
abbrev hk : PySem.W.Hook := hookC 4 fa fn cs
def ob (s : PySem.W.SharedT) : AlC := obsC 4 fa fn cs (HandSHeadRun.getT s)
theorem ob_eq (s : PySem.W.SharedT) : ob s = hk.obs s.abs := obsC_eq (HandSHeadRun.getT_eq s)
def loose0 : List PySem.Str := ["FIRST", "item_key", "key", "before", "raised", "next_version", "stepped", "ceiling", "star_bounds", "part_bounds", "bounds", "named", "is_between", "allows", "choice", "_law_draw", "_law_like", "_law_item_key", "_law_key", "_law_more", "_law_tail", "_law_numbers", "_law_version", "_law_part", "_law_range", "_law_rule", "_law_top", "_law_concerns", "_law_allowed", "_law_choice"]
def loose : List PySem.Str := loose0
theorem run (w : World) : HandSHeadRun.RunEq Rw (PySem.W.view Rw.prog [34]) hk ob 4000 loose w := by
  intro os
  kernel_rfl
theorem known {K : PySem.W.Frag} {h : Heap} {mg : Str → Option Value} (X : K.In h) (Y : h.Ns mainGlobals mg) (c : SaysC fa fn cs K) : Known K mg T gs G (fun r => defScope (top r.ix)) (fun r => defBody (top r.ix)) (fun r => defArgs (top r.ix)) where
  fre := fun x hx => He.free_ok X Y (c.1.facts (f := .free x) (List.mem_append_right _ (List.mem_map.mpr ⟨x, hx, rfl⟩)))
  con := fun x hx => by
    simp only [gs, List.mem_cons, List.not_mem_nil, or_false] at hx
    rcases hx with rfl
    · obtain ⟨u, v, k1, k2, k3⟩ := c.con X Y (x := "FIRST") (d := (.tuple [(.tuple [(.int 0), (.int 0), (.int 0)]), (.tuple [(.int 0)])])) (List.mem_of_getElem? (i := 0) rfl)
      refine ⟨u, v, k1, k2, fun d hd => ?_⟩
      have hd2 : some ((.tuple [(.tuple [(.int 0), (.int 0), (.int 0)]), (.tuple [(.int 0)])]) : PyData) = some d := hd
      cases hd2
      exact k3
  fns := fun r hr => by
    simp only [T, List.mem_cons, List.not_mem_nil, or_false] at hr
    rcases hr with rfl | rfl | rfl | rfl | rfl | rfl | rfl | rfl | rfl | rfl | rfl | rfl | rfl | rfl | rfl | rfl | rfl | rfl | rfl | rfl | rfl | rfl | rfl | rfl | rfl | rfl | rfl | rfl | rfl | rfl
    · obtain ⟨fd, F⟩ := c.1.def_ 0 (d := dd_item_key) rfl
      exact ⟨_, fd, F, He.glo_ok X Y (c.1.fact 0 (f := .glo "item_key") rfl), F.bindsN fun _ _ _ _ _ _ us hl => match us, hl with | [_], _ => rfl⟩
    · obtain ⟨fd, F⟩ := c.1.def_ 1 (d := dd_key) rfl
      exact ⟨_, fd, F, He.glo_ok X Y (c.1.fact 1 (f := .glo "key") rfl), F.bindsN fun _ _ _ _ _ _ us hl => match us, hl with | [_], _ => rfl⟩
    · obtain ⟨fd, F⟩ := c.1.def_ 2 (d := dd_before) rfl
      exact ⟨_, fd, F, He.glo_ok X Y (c.1.fact 2 (f := .glo "before") rfl), F.bindsN fun _ _ _ _ _ _ us hl => match us, hl with | [_, _], _ => rfl⟩
    · obtain ⟨fd, F⟩ := c.1.def_ 3 (d := dd_raised) rfl
      exact ⟨_, fd, F, He.glo_ok X Y (c.1.fact 3 (f := .glo "raised") rfl), F.bindsN fun _ _ _ _ _ _ us hl => match us, hl with | [_], _ => rfl⟩
    · obtain ⟨fd, F⟩ := c.1.def_ 4 (d := dd_next_version) rfl
      exact ⟨_, fd, F, He.glo_ok X Y (c.1.fact 4 (f := .glo "next_version") rfl), F.bindsN fun _ _ _ _ _ _ us hl => match us, hl with | [_], _ => rfl⟩
    · obtain ⟨fd, F⟩ := c.1.def_ 5 (d := dd_stepped) rfl
      exact ⟨_, fd, F, He.glo_ok X Y (c.1.fact 5 (f := .glo "stepped") rfl), F.bindsN fun _ _ _ _ _ _ us hl => match us, hl with | [_, _], _ => rfl⟩
    · obtain ⟨fd, F⟩ := c.1.def_ 6 (d := dd_ceiling) rfl
      exact ⟨_, fd, F, He.glo_ok X Y (c.1.fact 6 (f := .glo "ceiling") rfl), F.bindsN fun _ _ _ _ _ _ us hl => match us, hl with | [_], _ => rfl⟩
    · obtain ⟨fd, F⟩ := c.1.def_ 7 (d := dd_star_bounds) rfl
      exact ⟨_, fd, F, He.glo_ok X Y (c.1.fact 7 (f := .glo "star_bounds") rfl), F.bindsN fun _ _ _ _ _ _ us hl => match us, hl with | [_], _ => rfl⟩
    · obtain ⟨fd, F⟩ := c.1.def_ 8 (d := dd_part_bounds) rfl
      exact ⟨_, fd, F, He.glo_ok X Y (c.1.fact 8 (f := .glo "part_bounds") rfl), F.bindsN fun _ _ _ _ _ _ us hl => match us, hl with | [_], _ => rfl⟩
    · obtain ⟨fd, F⟩ := c.1.def_ 9 (d := dd_bounds) rfl
      exact ⟨_, fd, F, He.glo_ok X Y (c.1.fact 9 (f := .glo "bounds") rfl), F.bindsN fun _ _ _ _ _ _ us hl => match us, hl with | [_], _ => rfl⟩
    · obtain ⟨fd, F⟩ := c.1.def_ 10 (d := dd_named) rfl
      exact ⟨_, fd, F, He.glo_ok X Y (c.1.fact 10 (f := .glo "named") rfl), F.bindsN fun _ _ _ _ _ _ us hl => match us, hl with | [_], _ => rfl⟩
    · obtain ⟨fd, F⟩ := c.1.def_ 11 (d := dd_is_between) rfl
      exact ⟨_, fd, F, He.glo_ok X Y (c.1.fact 11 (f := .glo "is_between") rfl), F.bindsN fun _ _ _ _ _ _ us hl => match us, hl with | [_, _, _], _ => rfl⟩
    · obtain ⟨fd, F⟩ := c.1.def_ 12 (d := dd_allows) rfl
      exact ⟨_, fd, F, He.glo_ok X Y (c.1.fact 12 (f := .glo "allows") rfl), F.bindsN fun _ _ _ _ _ _ us hl => match us, hl with | [_, _, _], _ => rfl⟩
    · obtain ⟨fd, F⟩ := c.1.def_ 13 (d := dd_choice) rfl
      exact ⟨_, fd, F, He.glo_ok X Y (c.1.fact 13 (f := .glo "choice") rfl), F.bindsN fun _ _ _ _ _ _ us hl => match us, hl with | [_, _, _], _ => rfl⟩
    · obtain ⟨fd, F⟩ := c.1.def_ 14 (d := dd__law_draw) rfl
      exact ⟨_, fd, F, He.glo_ok X Y (c.1.fact 14 (f := .glo "_law_draw") rfl), F.bindsN fun _ _ _ _ _ _ us hl => match us, hl with | [_, _], _ => rfl⟩
    · obtain ⟨fd, F⟩ := c.1.def_ 15 (d := dd__law_like) rfl
      exact ⟨_, fd, F, He.glo_ok X Y (c.1.fact 15 (f := .glo "_law_like") rfl), F.bindsN fun _ _ _ _ _ _ us hl => match us, hl with | [_, _], _ => rfl⟩
    · obtain ⟨fd, F⟩ := c.1.def_ 16 (d := dd__law_item_key) rfl
      exact ⟨_, fd, F, He.glo_ok X Y (c.1.fact 16 (f := .glo "_law_item_key") rfl), F.bindsN fun _ _ _ _ _ _ us hl => match us, hl with | [_], _ => rfl⟩
    · obtain ⟨fd, F⟩ := c.1.def_ 17 (d := dd__law_key) rfl
      exact ⟨_, fd, F, He.glo_ok X Y (c.1.fact 17 (f := .glo "_law_key") rfl), F.bindsN fun _ _ _ _ _ _ us hl => match us, hl with | [_], _ => rfl⟩
    · obtain ⟨fd, F⟩ := c.1.def_ 18 (d := dd__law_more) rfl
      exact ⟨_, fd, F, He.glo_ok X Y (c.1.fact 18 (f := .glo "_law_more") rfl), F.bindsN fun _ _ _ _ _ _ us hl => match us, hl with | [_], _ => rfl⟩
    · obtain ⟨fd, F⟩ := c.1.def_ 19 (d := dd__law_tail) rfl
      exact ⟨_, fd, F, He.glo_ok X Y (c.1.fact 19 (f := .glo "_law_tail") rfl), F.bindsN fun _ _ _ _ _ _ us hl => match us, hl with | [_], _ => rfl⟩
    · obtain ⟨fd, F⟩ := c.1.def_ 20 (d := dd__law_numbers) rfl
      exact ⟨_, fd, F, He.glo_ok X Y (c.1.fact 20 (f := .glo "_law_numbers") rfl), F.bindsN fun _ _ _ _ _ _ us hl => match us, hl with | [_, _], _ => rfl⟩
    · obtain ⟨fd, F⟩ := c.1.def_ 21 (d := dd__law_version) rfl
      exact ⟨_, fd, F, He.glo_ok X Y (c.1.fact 21 (f := .glo "_law_version") rfl), F.bindsN fun _ _ _ _ _ _ us hl => match us, hl with | [_, _], _ => rfl⟩
    · obtain ⟨fd, F⟩ := c.1.def_ 22 (d := dd__law_part) rfl
      exact ⟨_, fd, F, He.glo_ok X Y (c.1.fact 22 (f := .glo "_law_part") rfl), F.bindsN fun _ _ _ _ _ _ us hl => match us, hl with | [_, _], _ => rfl⟩
    · obtain ⟨fd, F⟩ := c.1.def_ 23 (d := dd__law_range) rfl
      exact ⟨_, fd, F, He.glo_ok X Y (c.1.fact 23 (f := .glo "_law_range") rfl), F.bindsN fun _ _ _ _ _ _ us hl => match us, hl with | [_, _], _ => rfl⟩
    · obtain ⟨fd, F⟩ := c.1.def_ 24 (d := dd__law_rule) rfl
      exact ⟨_, fd, F, He.glo_ok X Y (c.1.fact 24 (f := .glo "_law_rule") rfl), F.bindsN fun _ _ _ _ _ _ us hl => match us, hl with | [_], _ => rfl⟩
    · obtain ⟨fd, F⟩ := c.1.def_ 25 (d := dd__law_top) rfl
      exact ⟨_, fd, F, He.glo_ok X Y (c.1.fact 25 (f := .glo "_law_top") rfl), F.bindsN fun _ _ _ _ _ _ us hl => match us, hl with | [_, _], _ => rfl⟩
    · obtain ⟨fd, F⟩ := c.1.def_ 26 (d := dd__law_concerns) rfl
      exact ⟨_, fd, F, He.glo_ok X Y (c.1.fact 26 (f := .glo "_law_concerns") rfl), F.bindsN fun _ _ _ _ _ _ us hl => match us, hl with | [_, _], _ => rfl⟩
    · obtain ⟨fd, F⟩ := c.1.def_ 27 (d := dd__law_allowed) rfl
      exact ⟨_, fd, F, He.glo_ok X Y (c.1.fact 27 (f := .glo "_law_allowed") rfl), F.bindsN fun _ _ _ _ _ _ us hl => match us, hl with | [_, _, _], _ => rfl⟩
    · obtain ⟨fd, F⟩ := c.1.def_ 28 (d := dd__law_choice) rfl
      exact ⟨_, fd, F, He.glo_ok X Y (c.1.fact 28 (f := .glo "_law_choice") rfl), F.bindsN fun _ _ _ _ _ _ us hl => match us, hl with | [_, _, _], _ => rfl⟩
    · obtain ⟨fd, F⟩ := c.1.def_ 29 (d := dd_law) rfl
      exact ⟨_, fd, F, He.glo_ok X Y (c.1.fact 29 (f := .glo "law") rfl), F.bindsN fun _ _ _ _ _ _ us hl => match us, hl with | [_], _ => rfl⟩
theorem facts {n : Nat} (plain : Plain T G (n + 1)) {P : Program} {w : World} {K : PySem.W.Frag} {h : Heap} {mg : Str → Option Value} {f : Addr} (X : K.In h) (Y : h.Ns mainGlobals mg) (hfa : mg ("law" : Str) = some (.ref f)) (c : SaysC fa fn cs K) :
    ∃ fd : FuncData, (∀ (s : Shared) (v : Value), BindsTo s fd ⟨[v], []⟩ [("script", v)]) ∧ ∀ base : Heap, K.In base → base.Ns mainGlobals mg → FnOk P w K mg base CX0 (2 * n + 1 + 1) f fd ["script"] (spLaw K) := by
  obtain ⟨fd, F⟩ := c.1.def_ 29 (d := dd_law) rfl
  have e := hfa.symm.trans (He.glo_ok X Y (c.1.fact 29 (f := .glo "law") rfl))
  cases e
  have b := FunD.bindsA (ps := ["script"]) F fun _ _ _ _ _ _ us hl => match us, hl with | [_], _ => rfl
  exact ⟨fd, fun s v => b s [v] rfl, fun base _ _ => law_ok (r := r_law) (known X Y c) ok_all (by simp [T]) rfl rfl rfl F plain⟩
end Lk21
open PySem PySem.W PySem.Calls PyProof.Rows
theorem PySem.Challenge.cw_versionspans_k21_published_versions_chos_holds : PySem.Challenge.rw_versionspans_k21_published_versions_chos.Holds := by
  w_on; o_law
  refine HandSHeadRun.head_any (r := OpenLaw.row PySem.Challenge.rw_versionspans_k21_published_versions_chos) (q := view (OpenLaw.row PySem.Challenge.rw_versionspans_k21_published_versions_chos).prog [34]) (H := Lk21.hk) (ob := Lk21.ob) (M := 4000) (loose := Lk21.loose) (d := HandSHeadRun.topDef (OpenLaw.row PySem.Challenge.rw_versionspans_k21_published_versions_chos).prog 34) (kwd := []) Lk21.ob_eq
    (by kernel_rfl) (fun s => by kernel_rfl) Lk21.run (by kernel_rfl) (by kernel_rfl) (by kernel_rfl) (by rfl) (by first | assumption | decide +kernel) (by decide +kernel) ⟨rfl, rfl, rfl, rfl, rfl, by decide +kernel⟩ ?hw ?hc
  case hw => w_witness2
  case hc =>
    refine L2.walk_ofE (l := PySem.Challenge.rw_versionspans_k21_published_versions_chos) (n := 63) (k := 2 * Lk21.fuel + 1 + 1) (x := "script") (CX := L2.CX0) rfl (by decide) (by kernel_rfl) ⟨rfl, by decide, by decide⟩ ?F (fun _ _ _ _ z => z)
    intro w mg fa h Y G hmg0
    obtain ⟨K, KX, c⟩ := Y
    have hmg : mg ("law" : PySem.Str) = some (.ref fa) := by
      have e : (HandSHeadRun.topDef (OpenLaw.row PySem.Challenge.rw_versionspans_k21_published_versions_chos).prog 34).name = ("law" : PySem.Str) := by kernel_rfl
      rw [← e]
      exact hmg0
    obtain ⟨fd, hb, hF⟩ := Lk21.facts (n := Lk21.fuel) Lk21.plain (P := PySem.Challenge.rw_versionspans_k21_published_versions_chos.prog) (w := w) KX G hmg c
    exact ⟨K, fd, Ev.spLaw K, KX, hb, fun H a ns hl _ hS => ⟨a, ns, rfl, hl, hS, fun _ => rfl⟩, hF⟩
