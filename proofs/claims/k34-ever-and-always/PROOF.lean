import PyProof.Rows.All
import Wide.All
import OpenK.AllK
import Wide.FinOn
import PyProof.StrBlock
import PyProof.StrBlock2
import PyProof.StrBlockL
import KE.SortData
import KE.KDictKeyed
import HandS.ForMost
import HandS.Walk
import HandS.More
import HandS.Flow
import HandS.Deep
import HandS.TupAny
import HandS.Style
import HandS.Zip
import HandS.Strs
import HandS.IsInst
import HandS.StrMore
import HandS.Conv
import HandS.RaiseMore
import HandS.Exc
import HandS.TryOnly
import HandS.ExcOwn
import HandS.WordsExc
import HandS.TupMul
import HandS.Text
import KE.KDictCopyH
import KE.KDictSum
import KE.KDictDisplayH
import KE.KDictWalk
import KE.KDictPairs
import KE.GoesMore
import PyProof.ListCopy
import HandS.Set
import HandS.SetFor
import HandS.ExcIs
import HandS.HeadHook1
import HandS.Defaults
import HandS.HeadHook4
import HandS.Head0
import HandS.Head1
import HandS.Head2
import HandS.HeadEnd
import HandS.HeadHook2
import PySem.Challenge.RW_branchtalk_k34_whole_ever_and_always
set_option Elab.async false
set_option linter.all false
set_option maxRecDepth 100000
set_option maxHeartbeats 4000000
/-! BTEv: a small syntax, and a pure evaluator of it over data. -/
namespace BT
open PySem

abbrev D := PyData

/-- what comes of an evaluation: a value, an error of an own class, or nothing told -/
inductive R (α : Type) where
  | ok (a : α) | exc (c : Str) | bad
def R.bind {α β : Type} : R α → (α → R β) → R β
  | .ok a, f => f a
  | .exc c, _ => .exc c
  | .bad, _ => .bad
@[simp] theorem R.bind_ok {α β : Type} (a : α) (f : α → R β) : (R.ok a).bind f = f a := rfl
@[simp] theorem R.bind_exc {α β : Type} (c : Str) (f : α → R β) : (R.exc c : R α).bind f = .exc c := rfl
@[simp] theorem R.bind_bad {α β : Type} (f : α → R β) : (R.bad : R α).bind f = .bad := rfl
/-- an error out of a comprehension is not told -/
def R.calm {α : Type} : R α → R α
  | .exc _ => .bad
  | x => x
@[simp] theorem R.calm_ok {α : Type} (a : α) : (R.ok a).calm = .ok a := rfl
@[simp] theorem R.calm_bad {α : Type} : (R.bad : R α).calm = .bad := rfl
@[simp] theorem R.calm_exc {α : Type} (c : Str) : (R.exc c : R α).calm = .bad := rfl
def R.ofO {α : Type} : Option α → R α
  | some a => .ok a
  | none => .bad
def R.gd {α : Type} (b : Bool) (x : R α) : R α := if b then x else .bad

inductive Bop where
  | add | sub | mul | mod | fdiv
  deriving DecidableEq
inductive Cop where
  | eq | ne | lt | le | gt | ge | isin | notin | is_ | isnot
  deriving DecidableEq
inductive Ty where
  | tint | tstr | tbool | ttup | tlst
  deriving DecidableEq
inductive Blt where
  | len | tuple | list | all | any | sum | int | str | ord | max2 | min2 | max1 | min1 | sorted | dict | lenset | sortset
  | upper | strip | split | join | count | index | get
  deriving DecidableEq
inductive ItK where
  | plain | enum | zip | range1 | range2
  deriving DecidableEq
inductive Tg where
  | name (i : Nat) | tup (is : List Nat) | nest (i : Nat) (is : List Nat)
  deriving DecidableEq

inductive M where
  | var (i : Nat) | lin (i : Nat)
  | non | bl (b : Bool) | int (i : Int) | str (x : Str)
  | tup (es : List M) | lst (es : List M)
  | bin (op : Bop) (a b : M) | neg (a : M) | nt (a : M)
  | and (a b : M) | or (a b : M) | ife (c a b : M)
  | cmp (op : Cop) (a b : M) | chain (o1 o2 : Cop) (a b c : M)
  | call (f : Str) (es : List M)
  | blt (b : Blt) (es : List M)
  | mth (b : Blt) (o : M) (es : List M)
  | isi (a : M) (ts : List Ty)
  | idx (a i : M) | slc (a lo hi : M) | rev (a : M)
  | lc (own : List Nat) (tg : Tg) (ik : ItK) (its : List M) (cond elt : M)
  | dnew | ddisp (k v : M)

inductive MS where
  | set (i : Nat) (e : M)
  | setL (i : Nat) (e : M)
  | mv (j i : Nat)
  | unp (is : List Nat) (e : M)
  | par (is : List Nat) (es : List M)
  | app (i : Nat) (e : M) | ext (i : Nat) (e : M)
  | popTo (j i : Nat)
  | pop0 (j i : Nat)
  | put (i : Nat) (k v : M)
  | dpop (i : Nat) (k : M)
  | exprS (e : M)
  | ret (e : M)
  | iff (c : M) (a b : List MS)
  | for_ (tg : Tg) (ik : ItK) (its : List M) (body : List MS)
  | while_ (c : M) (body : List MS)
  | brk | cont | pass
  | raise (c : Str)
  | try_ (i : Nat) (tbl : List (Str × Bool × List (Str × Bool))) (body su : List MS)

structure MFun where
  params : Nat
  slots : Nat
  lins : List Nat
  body : List MS

abbrev En := List (Option D)
def get (r : En) (i : Nat) : R D :=
  match r[i]? with
  | some (some d) => .ok d
  | _ => .bad
def put (r : En) (i : Nat) (d : D) : En := r.set i (some d)
def drop (r : En) (i : Nat) : En := r.set i none
def wipeE (r : En) : List Nat → En
  | [] => r
  | v :: vs => (wipeE r vs).set v none

/-! ### the operations on data -/
/-- as a test; of dicts nothing is told -/
def tst : D → R Bool
  | .dict _ => .bad
  | .none => .ok false
  | .bool b => .ok b
  | .int i => .ok (i != 0)
  | .str x => .ok (x.length != 0)
  | .list xs => .ok (!xs.isEmpty)
  | .tuple xs => .ok (!xs.isEmpty)
def LIM : Nat := 16777216
def okSb (x : Str) : Bool := decide (x.length ≤ LIM) && PyData.strOk x
def binF : Bop → D → D → R D
  | .add, .int i, .int j => .ok (.int (i + j))
  | .add, .str x, .str y => .gd (decide (x.length + y.length ≤ LIM)) (.ok (.str (x ++ y)))
  | .add, .tuple xs, .tuple ys => .gd (decide (xs.length + ys.length ≤ LIM)) (.ok (.tuple (xs ++ ys)))
  | .add, .list xs, .list ys => .gd (decide (xs.length + ys.length ≤ LIM)) (.ok (.list (xs ++ ys)))
  | .sub, .int i, .int j => .ok (.int (i - j))
  | .mul, .int i, .int j => .gd (decide (-(2 ^ 64) < i ∧ i < 2 ^ 64) || decide (-(2 ^ 64) < j ∧ j < 2 ^ 64)) (.ok (.int (i * j)))
  | .mul, .list xs, .int j => .gd (decide (0 ≤ j ∧ j < 1000 ∧ xs.length * j.toNat ≤ LIM)) (.ok (.list (List.replicate j.toNat xs).flatten))
  | .mul, .str x, .int j => .gd (decide (0 ≤ j ∧ j < 1000 ∧ x.length * j.toNat ≤ LIM) && okSb (PySem.Txt.mul x j)) (.ok (.str (PySem.Txt.mul x j)))
  | .mod, .int i, .int j => .gd (decide (0 < j)) (.ok (.int (i % j)))
  | .fdiv, .int i, .int j => .gd (decide (0 < j ∧ j < 1073741824)) (.ok (.int (i / j)))
  | _, _, _ => .bad
mutual
/-- nested at most n deep, no dict in it -/
def shal : Nat → D → Bool
  | _, .none => true
  | _, .bool _ => true
  | _, .int _ => true
  | _, .str _ => true
  | 0, .list _ => false
  | 0, .tuple _ => false
  | n + 1, .list xs => shalL n xs
  | n + 1, .tuple xs => shalL n xs
  | _, .dict _ => false
def shalL : Nat → List D → Bool
  | _, [] => true
  | n, x :: xs => shal n x && shalL n xs
end
mutual
/-- no list and no dict in it -/
def nolist : D → Bool
  | .none => true
  | .bool _ => true
  | .int _ => true
  | .str _ => true
  | .list _ => false
  | .dict _ => false
  | .tuple xs => nolistL xs
def nolistL : List D → Bool
  | [] => true
  | x :: xs => nolist x && nolistL xs
end
def keysOf (kvs : List (D × D)) : List D := kvs.map Prod.fst
def dfind (kvs : List (D × D)) (k : D) : Option D := (kvs.find? fun kv => PyData.eqv kv.1 k).map Prod.snd
def dput (kvs : List (D × D)) (k v : D) : List (D × D) :=
  if kvs.any (fun kv => PyData.eqv kv.1 k) then kvs.map (fun kv => if PyData.eqv kv.1 k then (kv.1, v) else kv) else kvs ++ [(k, v)]
def ddel (kvs : List (D × D)) (k : D) : List (D × D) := kvs.filter fun kv => !PyData.eqv kv.1 k
def isStrD : D → Bool
  | .str _ => true
  | _ => false
def isTupD : D → Bool
  | .tuple _ => true
  | _ => false
/-- the keys of a dict: all texts, or all tuples -/
def keyFits (kvs : List (D × D)) (k : D) : Bool :=
  match k with
  | .str _ => kvs.all fun kv => isStrD kv.1
  | .tuple _ => shal 8 k && nolist k && kvs.all fun kv => isTupD kv.1
  | _ => false
def inF (x y : D) : R Bool :=
  match y with
  | .list ys => .gd (shal 60 x && shalL 60 ys) (.ok (ys.any fun z => PyData.eqv z x))
  | .tuple ys => .gd (shal 60 x && shalL 60 ys) (.ok (ys.any fun z => PyData.eqv z x))
  | .dict kvs => .gd (keyFits kvs x) (.ok (dfind kvs x).isSome)
  | .str z => match x with
    | .str w => .ok (!(Builtin.Str.occurrences z w 0 z.length 1).isEmpty)
    | _ => .bad
  | _ => .bad
def isNon : D → Bool
  | .none => true
  | _ => false
def isBl (b : Bool) : D → Bool
  | .bool c => c == b
  | _ => false
def cmpF : Cop → D → D → R Bool
  | .eq, x, y => .gd (shal 60 x && shal 60 y) (.ok (PyData.eqv x y))
  | .ne, x, y => .gd (shal 60 x && shal 60 y) (.ok (!PyData.eqv x y))
  | .lt, .int i, .int j => .ok (decide (i < j))
  | .le, .int i, .int j => .ok (decide (i ≤ j))
  | .gt, .int i, .int j => .ok (decide (j < i))
  | .ge, .int i, .int j => .ok (decide (j ≤ i))
  | .lt, .str x, .str y => .ok (decide (x.cps.toList < y.cps.toList))
  | .le, .str x, .str y => .ok (decide (x.cps.toList ≤ y.cps.toList))
  | .isin, x, y => inF x y
  | .notin, x, y => (inF x y).bind fun b => .ok (!b)
  | .is_, x, .none => .ok (isNon x)
  | .isnot, x, .none => .ok (!isNon x)
  | .is_, x, .bool b => .ok (isBl b x)
  | .isnot, x, .bool b => .ok (!isBl b x)
  | _, _, _ => .bad
def isTy (d : D) (t : Ty) : Bool :=
  match d, t with
  | .bool _, .tbool => true
  | .bool _, .tint => true
  | .int _, .tint => true
  | .str _, .tstr => true
  | .list _, .tlst => true
  | .tuple _, .ttup => true
  | _, _ => false
/-- isinstance; of dicts nothing is told -/
def isiF (x : D) (ts : List Ty) : R D :=
  match x with
  | .dict _ => .bad
  | x => .ok (.bool (ts.any fun t => isTy x t))
def charsOf (x : Str) : List D := x.cps.toList.map fun c => .str ⟨#[c]⟩
def itemsP : D → R (List D)
  | .list xs => .ok xs
  | .tuple xs => .ok xs
  | .str x => .ok (charsOf x)
  | .dict kvs => .ok (keysOf kvs)
  | _ => .bad
/-- may be walked: dicts, if their keys are tuples -/
def noDict : D → Bool
  | .dict kvs => !kvs.isEmpty && kvs.all fun kv => isTupD kv.1
  | _ => true
def itemsF : ItK → List D → R (List D)
  | .plain, [d] => .gd (noDict d) (itemsP d)
  | .enum, [.list xs] => .ok ((xs.zipIdx).map fun p => .tuple [.int p.2, p.1])
  | .enum, [.tuple xs] => .ok ((xs.zipIdx).map fun p => .tuple [.int p.2, p.1])
  | .zip, [.list xs, .list ys] => .ok ((xs.zip ys).map fun p => .tuple [p.1, p.2])
  | .zip, [.tuple xs, .tuple ys] => .ok ((xs.zip ys).map fun p => .tuple [p.1, p.2])
  | .range1, [.int n] => .gd (decide (-1000000 ≤ n ∧ n ≤ 1000000)) (.ok ((List.range n.toNat).map fun (k : Nat) => .int (k : Int)))
  | .range2, [.int a, .int b] => .gd (decide (-1000000 ≤ a ∧ a ≤ 1000000 ∧ -1000000 ≤ b ∧ b ≤ 1000000)) (.ok ((List.range (b - a).toNat).map fun (k : Nat) => .int (a + (k : Int))))
  | _, _ => .bad
def boolsOf : List D → Option (List Bool)
  | [] => some []
  | .bool b :: r => (boolsOf r).map (b :: ·)
  | _ :: _ => none
def intsOf : List D → Option (List Int)
  | [] => some []
  | .int b :: r => (intsOf r).map (b :: ·)
  | _ :: _ => none
def strsOf : List D → Option (List Str)
  | [] => some []
  | .str b :: r => (strsOf r).map (b :: ·)
  | _ :: _ => none
/-- pairs (key, value) -/
def pairsOf : List D → Option (List (D × D))
  | [] => some []
  | .tuple [k, v] :: r => (pairsOf r).map ((k, v) :: ·)
  | _ :: _ => none
def dictFrom (ps : List (D × D)) : List (D × D) := ps.foldl (fun acc kv => dput acc kv.1 kv.2) []
def fitAll (ps : List (D × D)) : Bool :=
  (ps.all fun kv => isStrD kv.1) || (ps.all fun kv => isTupD kv.1 && shal 8 kv.1 && nolist kv.1)
def leD (x y : D) : Bool := W.dataLe false id x y
def alikeL : List D → Bool
  | [] => true
  | x :: xs => xs.all fun y => W.alike x y
/-- may be sorted: all alike pairwise, of texts, ints, or tuples that are not empty; not deep -/
def sortOk (xs : List D) : Bool :=
  (xs.all fun x => xs.all fun y => W.alike x y) && shalL 60 xs && ((xs.all fun x => match x with | .tuple (_ :: _) => true | _ => false) || (xs.all fun x => match x with | .tuple _ => false | .none => false | _ => true))
def maxL : List Int → Int
  | [] => 0
  | [x] => x
  | x :: y :: r => max x (maxL (y :: r))
def minL : List Int → Int
  | [] => 0
  | [x] => x
  | x :: y :: r => min x (minL (y :: r))
def findAt (xs : List D) (d : D) : Option Nat := xs.findIdx? fun z => PyData.eqv z d
def dedupS : List Str → List Str
  | [] => []
  | x :: r => if x ∈ r then dedupS r else x :: dedupS r
def bltF : Blt → List D → R D
  | .len, [.list xs] => .ok (.int xs.length)
  | .len, [.tuple xs] => .ok (.int xs.length)
  | .len, [.str x] => .ok (.int x.length)
  | .len, [.dict kvs] => .ok (.int kvs.length)
  | .tuple, [.list xs] => .ok (.tuple xs)
  | .tuple, [.tuple xs] => .ok (.tuple xs)
  | .list, [.list xs] => .ok (.list xs)
  | .list, [.tuple xs] => .ok (.list xs)
  | .list, [.dict kvs] => .gd ((kvs.all fun kv => isStrD kv.1) || (kvs.all fun kv => isTupD kv.1)) (.ok (.list (keysOf kvs)))
  | .tuple, [.dict kvs] => .gd (kvs.all fun kv => isTupD kv.1) (.ok (.tuple (keysOf kvs)))
  | .all, [.list xs] => (R.ofO (boolsOf xs)).bind fun bs => .ok (.bool (bs.all id))
  | .any, [.list xs] => (R.ofO (boolsOf xs)).bind fun bs => .ok (.bool (bs.any id))
  | .sum, [.list xs] => (R.ofO (intsOf xs)).bind fun ns => .ok (.int ns.sum)
  | .int, [.int i] => .ok (.int i)
  | .int, [.bool b] => .ok (.int (if b then 1 else 0))
  | .str, [.int i] => .gd (decide (i.natAbs.log2 < 1920) && okSb (toString i)) (.ok (.str (toString i)))
  | .str, [.str x] => .ok (.str x)
  | .ord, [.str x] => .gd (decide (x.length = 1)) (.ok (.int (x.cps.getD 0 0 : Nat)))
  | .max2, [.int i, .int j] => .ok (.int (if j > i then j else i))
  | .min2, [.int i, .int j] => .ok (.int (if j < i then j else i))
  | .max1, [.list xs] => (R.ofO (intsOf xs)).bind fun ns => .gd (!ns.isEmpty) (.ok (.int (maxL ns)))
  | .min1, [.list xs] => (R.ofO (intsOf xs)).bind fun ns => .gd (!ns.isEmpty) (.ok (.int (minL ns)))
  | .sorted, [.list xs] => .gd (sortOk xs) (.ok (.list (xs.mergeSort leD)))
  | .sorted, [.tuple xs] => .gd (sortOk xs) (.ok (.list (xs.mergeSort leD)))
  | .sorted, [.dict kvs] => .gd ((kvs.all fun kv => isStrD kv.1) && decide (kvs.length < 64)) (.ok (.list ((keysOf kvs).mergeSort leD)))
  | .dict, [.list xs] => (R.ofO (pairsOf xs)).bind fun ps => .gd (fitAll ps) (.ok (.dict (dictFrom ps)))
  | .dict, [.tuple xs] => (R.ofO (pairsOf xs)).bind fun ps => .gd (fitAll ps) (.ok (.dict (dictFrom ps)))
  | .lenset, [.list xs] => (R.ofO (strsOf xs)).bind fun ss => .gd (decide (ss.length < 64)) (.ok (.int (dedupS ss).length))
  | .sortset, [.list xs] => (R.ofO (strsOf xs)).bind fun ss => .gd (decide (ss.length < 64)) (.ok (.list (((dedupS ss).map PyData.str).mergeSort leD)))
  | .upper, [.str x] => .gd (decide (x.length ≤ 5592405) && okSb (PySem.Txt.upper x)) (.ok (.str (PySem.Txt.upper x)))
  | .strip, [.str x, .str y] => .ok (.str (PySem.Txt.stripChars x y))
  | .split, [.str x, .str y] => .gd (!(y.length == 0) && decide (x.length + 2 ≤ LIM) && decide ((PySem.Txt.split x y).length ≤ LIM) && (PySem.Txt.split x y).all okSb) (.ok (.list ((PySem.Txt.split x y).map .str)))
  | .join, [.str x, .list xs] => (R.ofO (strsOf xs)).bind fun ys => .gd (decide ((ys.map (·.length)).sum + ys.length * x.length ≤ LIM) && okSb (PySem.Txt.join x ys)) (.ok (.str (PySem.Txt.join x ys)))
  | .count, [.list xs, d] => .gd (shalL 60 xs && shal 60 d) (.ok (.int (xs.filter fun z => PyData.eqv z d).length))
  | .count, [.str x, .str y] => .ok (.int (PySem.Txt.count x y))
  | .index, [.list xs, d] => .gd (shalL 60 xs && shal 60 d) ((R.ofO (findAt xs d)).bind fun j => .ok (.int j))
  | .get, [.dict kvs, k, d] => .gd (keyFits kvs k) (.ok ((dfind kvs k).getD d))
  | _, _ => .bad
def toI : D → R (Option Int)
  | .int i => .ok (some i)
  | _ => .bad
def M.absent : M → Bool
  | .non => true
  | _ => false
def sIx (n d : Nat) : Option Int → Nat
  | none => d
  | some v => if v < 0 then (v + (n : Int)).toNat else min v.toNat n
def cutL {α : Type} (xs : List α) (lo hi : Option Int) : List α := (xs.drop (sIx xs.length 0 lo)).take (sIx xs.length xs.length hi - sIx xs.length 0 lo)
def cutStr (z : Str) (lo hi : Option Int) : Str := ⟨(cutL z.cps.toList lo hi).toArray⟩
def ixOf (n : Nat) (i : Int) : Option Nat := if 0 ≤ i then (if i < n then some i.toNat else none) else if -(n : Int) ≤ i then some (i + n).toNat else none
def atOf {α : Type} (xs : List α) (i : Int) : Option α := (ixOf xs.length i).bind fun j => xs[j]?
def idxF : D → D → R D
  | .list xs, .int i => .ofO (atOf xs i)
  | .tuple xs, .int i => .ofO (atOf xs i)
  | .str x, .int i => (R.ofO (atOf x.cps.toList i)).bind fun c => .ok (.str ⟨#[c]⟩)
  | .dict kvs, k => .gd (keyFits kvs k) (.ofO (dfind kvs k))
  | _, _ => .bad
def slcF (x : D) (lo hi : Option Int) : R D :=
  match x with
  | .list xs => .ok (.list (cutL xs lo hi))
  | .tuple xs => .ok (.tuple (cutL xs lo hi))
  | .str z => .ok (.str (cutStr z lo hi))
  | _ => .bad
def revF : D → R D
  | .list xs => .ok (.list xs.reverse)
  | .tuple xs => .ok (.tuple xs.reverse)
  | _ => .bad
def putAll : List Nat → List D → En → En
  | i :: is, d :: ds, r => putAll is ds (put r i d)
  | _, _, r => r
def asg : Tg → D → En → R En
  | .name i, d, r => .ok (put r i d)
  | .tup is, .tuple ds, r => if is.length = ds.length then .ok (putAll is ds r) else .bad
  | .tup _, _, _ => .bad
  | .nest i is, .tuple [a, .tuple ds], r => if is.length = ds.length then .ok (putAll is ds (put r i a)) else .bad
  | .nest _ _, _, _ => .bad
/-- the turns of a comprehension -/
def lcN (f : D → R (Option D)) : List D → R (List D)
  | [] => .ok []
  | x :: xs => (f x).calm.bind fun o => (lcN f xs).bind fun ys => .ok (match o with | some y => y :: ys | none => ys)

abbrev CallF := Str → List D → R D
mutual
def ev (C : CallF) : M → En → R D
  | .var i, r => get r i
  | .lin i, r => get r i
  | .non, _ => .ok .none
  | .bl b, _ => .ok (.bool b)
  | .int i, _ => .ok (.int i)
  | .str x, _ => .ok (.str x)
  | .tup es, r => (evs C es r).bind fun ds => .ok (.tuple ds)
  | .lst es, r => (evs C es r).bind fun ds => .ok (.list ds)
  | .bin op a b, r => (ev C a r).bind fun x => (ev C b r).bind fun y => binF op x y
  | .neg a, r => (ev C a r).bind fun x => match x with | .int i => .ok (.int (-i)) | _ => .bad
  | .nt a, r => (ev C a r).bind fun x => (tst x).bind fun k => .ok (.bool (!k))
  | .and a b, r => (ev C a r).bind fun x => (tst x).bind fun k => if k then ev C b r else .ok x
  | .or a b, r => (ev C a r).bind fun x => (tst x).bind fun k => if k then .ok x else ev C b r
  | .ife c a b, r => ((ev C c r).bind tst).bind fun k => if k then ev C a r else ev C b r
  | .cmp op a b, r => (ev C a r).bind fun x => (ev C b r).bind fun y => (cmpF op x y).bind fun k => .ok (.bool k)
  | .chain o1 o2 a b c, r => (ev C a r).bind fun x => (ev C b r).bind fun y => (cmpF o1 x y).bind fun k => if k then (ev C c r).bind fun z => (cmpF o2 y z).bind fun k => .ok (.bool k) else .ok (.bool false)
  | .call f es, r => (evs C es r).bind fun ds => C f ds
  | .blt b es, r => (evs C es r).bind fun ds => bltF b ds
  | .mth b o es, r => (ev C o r).bind fun d => (evs C es r).calm.bind fun ds => bltF b (d :: ds)
  | .isi a ts, r => (ev C a r).bind fun x => isiF x ts
  | .idx a i, r => (ev C a r).bind fun x => (ev C i r).bind fun y => idxF x y
  | .slc a lo hi, r => (ev C a r).bind fun x => (if lo.absent then .ok none else (ev C lo r).bind toI).bind fun l => (if hi.absent then .ok none else (ev C hi r).bind toI).bind fun h => slcF x l h
  | .rev a, r => (ev C a r).bind fun x => revF x
  | .lc own tg ik its cond elt, r => (evs C its r).bind fun ds => (itemsF ik ds).bind fun xs =>
      (lcN (fun x => (asg tg x (wipeE r own)).bind fun r1 => ((ev C cond r1).bind tst).bind fun k => if k then (ev C elt r1).bind fun y => .ok (some y) else .ok none) xs).bind fun ys => .ok (.list ys)
  | .dnew, _ => .ok (.dict [])
  | .ddisp k v, r => (ev C k r).bind fun x => (ev C v r).bind fun y => .gd (isTupD x && keyFits [] x) (.ok (.dict [(x, y)]))
def evs (C : CallF) : List M → En → R (List D)
  | [], _ => .ok []
  | e :: es, r => (ev C e r).bind fun d => (evs C es r).bind fun ds => .ok (d :: ds)
end

/-- what comes of a statement -/
inductive F where
  | nx (r : En) | rt (d : D) | bk (r : En) | ct (r : En) | exc (c : Str) (r : En) | bad
def F.then (x : F) (f : En → F) : F := match x with
  | .nx r => f r
  | y => y
def R.toF {α : Type} (x : R α) (r : En) (f : α → F) : F := match x with
  | .ok a => f a
  | .exc c => .exc c r
  | .bad => .bad
@[simp] theorem R.toF_ok {α : Type} (a : α) (r : En) (f : α → F) : (R.ok a).toF r f = f a := rfl
@[simp] theorem R.toF_exc {α : Type} (c : Str) (r : En) (f : α → F) : (R.exc c : R α).toF r f = .exc c r := rfl
@[simp] theorem R.toF_bad {α : Type} (r : En) (f : α → F) : (R.bad : R α).toF r f = .bad := rfl
@[simp] theorem F.then_nx (r : En) (f : En → F) : (F.nx r).then f = f r := rfl
@[simp] theorem F.then_rt (d : D) (f : En → F) : (F.rt d).then f = .rt d := rfl
@[simp] theorem F.then_bk (r : En) (f : En → F) : (F.bk r).then f = .bk r := rfl
@[simp] theorem F.then_ct (r : En) (f : En → F) : (F.ct r).then f = .ct r := rfl
@[simp] theorem F.then_exc (c : Str) (r : En) (f : En → F) : (F.exc c r).then f = .exc c r := rfl
@[simp] theorem F.then_bad (f : En → F) : F.bad.then f = .bad := rfl
/-- behind a turn of a loop -/
def F.turn (x : F) (f : En → F) : F := match x with
  | .nx r => f r
  | .ct r => f r
  | .bk r => .nx r
  | y => y
@[simp] theorem F.turn_nx (r : En) (f : En → F) : (F.nx r).turn f = f r := rfl
@[simp] theorem F.turn_ct (r : En) (f : En → F) : (F.ct r).turn f = f r := rfl
@[simp] theorem F.turn_bk (r : En) (f : En → F) : (F.bk r).turn f = .nx r := rfl
@[simp] theorem F.turn_rt (d : D) (f : En → F) : (F.rt d).turn f = .rt d := rfl
@[simp] theorem F.turn_exc (c : Str) (r : En) (f : En → F) : (F.exc c r).turn f = .exc c r := rfl
@[simp] theorem F.turn_bad (f : En → F) : F.bad.turn f = .bad := rfl
def forN (tg : Tg) (body : En → F) : List D → En → F
  | [], r => .nx r
  | x :: xs, r => (asg tg x r).toF r fun r1 => (body r1).turn fun r2 => forN tg body xs r2
def whileN (c : En → R Bool) (body : En → F) : Nat → En → F
  | 0, _ => .bad
  | n + 1, r => (c r).toF r fun k => if k then (body r).turn fun r2 => whileN c body n r2 else .nx r
/-- what isinstance tells of a caught error -/
def isC (row : List (Str × Bool)) (C : CallF) : CallF := fun f ds => if f = "isinstance" then (match ds with
  | [.str y] => (match row.lookup y with
    | some b => .ok (.bool b)
    | none => .bad)
  | _ => .bad) else C f ds
/-- a plain suite -/
def evH (C : CallF) : List MS → En → F
  | [], r => .nx r
  | .set i e :: ss, r => (ev C e r).toF r fun d => evH C ss (put r i d)
  | .ret e :: _, r => (ev C e r).toF r fun d => .rt d
  | _, _ => .bad
def F.env (x : F) (f : En → En) : F := match x with
  | .nx r => .nx (f r)
  | .bk r => .bk (f r)
  | .ct r => .ct (f r)
  | .exc _ _ => .bad
  | .rt d => .rt d
  | .bad => .bad
def setAt : List D → Nat → D → List D := fun xs j v => xs.set j v
def putF (x k v : D) : R D := match x with
  | .dict kvs => .gd (keyFits kvs k && decide (kvs.length < LIM)) (.ok (.dict (dput kvs k v)))
  | _ => .bad
mutual
def evS (C : CallF) (wf : Nat) : MS → En → F
  | .set i e, r => (ev C e r).toF r fun d => .nx (put r i d)
  | .setL i e, r => (ev C e r).toF r fun d => .nx (put r i d)
  | .mv j i, r => (get r i).toF r fun d => .nx (put (drop r i) j d)
  | .unp is e, r => (ev C e r).toF r fun d => (asg (.tup is) d r).toF r fun r1 => .nx r1
  | .par is es, r => (evs C es r).toF r fun ds => if is.length = ds.length then .nx (putAll is ds r) else .bad
  | .app i e, r => (get r i).toF r fun x => match x with
    | .list xs => (ev C e r).toF r fun d => if xs.length < LIM then .nx (put r i (.list (xs ++ [d]))) else .bad
    | _ => .bad
  | .ext i e, r => (get r i).toF r fun x => match x with
    | .list xs => (ev C e r).toF r fun d => match d with
      | .list ys => if xs.length + ys.length ≤ LIM then .nx (put r i (.list (xs ++ ys))) else .bad
      | _ => .bad
    | _ => .bad
  | .popTo j i, r => (get r i).toF r fun x => match x with
    | .list xs => match xs.getLast? with
      | some y => .nx (put (put r i (.list xs.dropLast)) j y)
      | none => .bad
    | _ => .bad
  | .pop0 j i, r => (get r i).toF r fun x => match x with
    | .list (z :: zs) => .nx (put (put r i (.list zs)) j z)
    | _ => .bad
  | .put i k v, r => (ev C v r).toF r fun v => (get r i).toF r fun x => (ev C k r).toF r fun k => (putF x k v).toF r fun y => .nx (put r i y)
  | .dpop i k, r => (get r i).toF r fun x => match x with
    | .dict kvs => (ev C k r).toF r fun k => if keyFits kvs k && (dfind kvs k).isSome then .nx (put r i (.dict (ddel kvs k))) else .bad
    | _ => .bad
  | .exprS e, r => (ev C e r).toF r fun _ => .nx r
  | .ret e, r => (ev C e r).toF r fun d => .rt d
  | .iff c a b, r => ((ev C c r).bind tst).toF r fun k => if k then evSs C wf a r else evSs C wf b r
  | .for_ tg ik its body, r => (evs C its r).toF r fun ds => (itemsF ik ds).toF r fun xs => forN tg (fun r1 => evSs C wf body r1) xs r
  | .while_ c body, r => whileN (fun r1 => (ev C c r1).bind tst) (fun r1 => evSs C wf body r1) wf r
  | .brk, r => .bk r
  | .cont, r => .ct r
  | .pass, r => .nx r
  | .raise c, r => .exc c r
  | .try_ i tbl body su, r => match evSs C wf body r with
    | .exc c r' => (match tbl.lookup c with
      | some (true, row) => (evH (isC row C) su (drop r' i)).env fun r2 => drop r2 i
      | some (false, _) => .exc c r'
      | none => .bad)
    | f => f
def evSs (C : CallF) (wf : Nat) : List MS → En → F
  | [], r => .nx r
  | s :: ss, r => (evS C wf s r).then fun r1 => evSs C wf ss r1
end
def F.res : F → R D
  | .nx _ => .ok .none
  | .rt d => .ok d
  | .exc c _ => .exc c
  | _ => .bad
def startE (f : MFun) (ds : List D) : En := ds.map some ++ List.replicate (f.slots - ds.length) none
def runF (C : CallF) (wf : Nat) (f : MFun) (ds : List D) : R D := if ds.length = f.params then (evSs C wf f.body (startE f ds)).res else .bad
abbrev Tab := List (Str × MFun)
def callN (T : Tab) (wf : Nat) (nat : CallF) : Nat → CallF
  | 0 => fun _ _ => .bad
  | k + 1 => fun f ds => match T.lookup f with
    | some m => runF (callN T wf nat k) wf m ds
    | none => nat f ds
/-- the reader of the script -/
def cellN (ns : List Int) : CallF := fun f ds => if f = "_law_cell" then (match ds with | [.int k] => if 0 ≤ k then .ok (.int (ns.getD k.toNat 0)) else .bad | _ => .bad) else .bad
end BT
set_option Elab.async false
set_option linter.all false
set_option maxRecDepth 100000
set_option maxHeartbeats 4000000
/-! BTRep: what a value stands for. -/
namespace BT
open PySem PySem.Spec PyProof.Rows L2

def OkS (x : Str) : Prop := x.length ≤ sizeLine ∧ PyData.strOk x = true
mutual
def keyOf : D → Option NestedKey
  | .none => some .none
  | .bool b => some (.num (if b then 1 else 0))
  | .int i => some (.num i)
  | .str x => some (.text x)
  | .tuple xs => (keysL xs).map .tup
  | .list _ => none
  | .dict _ => none
def keysL : List D → Option (List NestedKey)
  | [] => some []
  | x :: xs => (keyOf x).bind fun k => (keysL xs).map (k :: ·)
end
/-- a dict by its raw entries, keys that are tuples -/
def dN (P : Program) (w : World) (a : Addr) (ep : Nat) (xs : List (NestedKey × Addr × Value)) : HO :=
  .ext fun h => ∃ o es, h.get? a = some o ∧ o.ExactDict ∧ o.data = .dict es ep ∧ es.toList = xs.map (entryOfKey (nestedKind P w))

/-- a tuple whose object bears no attributes -/
def TupAt (H : Hp) (a : Addr) (xs : List V) : Prop := ∃ o : Obj, H a = some (.frz o (.tup xs)) ∧ o.dict = none
theorem TupAt.sq {K : PySem.W.Frag} {H : Hp} {a : Addr} {xs : List V} (h : TupAt H a xs) : SqT K H a xs := by
  obtain ⟨o, e, _⟩ := h
  exact .inl (.inr ⟨o, e⟩)
theorem TupAt.at {H H' : Hp} {a : Addr} {xs : List V} (h : TupAt H a xs) (k : ∀ o, H a = some o → H' a = some o) : TupAt H' a xs := by
  obtain ⟨o, e, z⟩ := h
  exact ⟨o, k _ e, z⟩
theorem TupAt.dom {H : Hp} {a : Addr} {xs : List V} (h : TupAt H a xs) : H a ≠ none := by
  obtain ⟨o, e, _⟩ := h
  rw [e]; exact fun z => nomatch z
section
variable (P : Program) (w : World) (H : Hp) (bd : Addr → Prop)
mutual
inductive Rep : V → D → Prop
  | non : Rep .non .none
  | bl (b : Bool) : Rep (.bl b) (.bool b)
  | int (i : Int) : Rep (.int i) (.int i)
  | str {x : Str} : OkS x → Rep (.str x) (.str x)
  | lst {a : Addr} {xs : List V} {ds : List D} : ¬ bd a → H a = some (.lst xs) → xs.length ≤ sizeLine → RepL xs ds → Rep (.ref a) (.list ds)
  | tup {a : Addr} {xs : List V} {ds : List D} : ¬ bd a → TupAt H a xs → xs.length ≤ sizeLine → RepL xs ds → Rep (.ref a) (.tuple ds)
  | dK {a : Addr} {kvs : List (Key × V)} {ds : List (D × D)} : ¬ bd a → H a = some (.dK kvs) → kvs.length ≤ sizeLine → RepK kvs ds → Rep (.ref a) (.dict ds)
  | dN {a : Addr} {ep : Nat} {xs : List (NestedKey × Addr × Value)} {ds : List (D × D)} : ¬ bd a → H a = some (dN P w a ep xs) → xs.length ≤ sizeLine → (a == sysModules) = false → xs ≠ [] → (xs.map (·.1)).Nodup → RepN xs ds → Rep (.ref a) (.dict ds)
inductive RepL : List V → List D → Prop
  | nil : RepL [] []
  | cons {v : V} {vs : List V} {d : D} {ds : List D} : Rep v d → RepL vs ds → RepL (v :: vs) (d :: ds)
inductive RepK : List (Key × V) → List (D × D) → Prop
  | nil : RepK [] []
  | cons {x : Str} {v : V} {r : List (Key × V)} {d : D} {ds : List (D × D)} : OkS x → Rep v d → RepK r ds → RepK ((.inr x, v) :: r) ((.str x, d) :: ds)
inductive RepN : List (NestedKey × Addr × Value) → List (D × D) → Prop
  | nil : RepN [] []
  | cons {k : NestedKey} {a : Addr} {u : Value} {v : V} {kd d : D} {r : List (NestedKey × Addr × Value)} {ds : List (D × D)} :
      keyOf kd = some k → shal 8 kd = true → isTupD kd = true → Rep (.ref a) kd → RelV v u → Rep v d → RepN r ds → RepN ((k, a, u) :: r) ((kd, d) :: ds)
end
/-- .. where the object itself (not its parts) may be one of those that change -/
inductive RepT : V → D → Prop
  | of {v : V} {d : D} : Rep P w H bd v d → RepT v d
  | lst {a : Addr} {xs : List V} {ds : List D} : H a = some (.lst xs) → xs.length ≤ sizeLine → RepL P w H bd xs ds → RepT (.ref a) (.list ds)
  | dK {a : Addr} {kvs : List (Key × V)} {ds : List (D × D)} : H a = some (.dK kvs) → kvs.length ≤ sizeLine → RepK P w H bd kvs ds → RepT (.ref a) (.dict ds)
  | dN {a : Addr} {ep : Nat} {xs : List (NestedKey × Addr × Value)} {ds : List (D × D)} : H a = some (dN P w a ep xs) → xs.length ≤ sizeLine → (a == sysModules) = false → xs ≠ [] → (xs.map (·.1)).Nodup → RepN P w H bd xs ds → RepT (.ref a) (.dict ds)
end

/-- all but the changing ones is kept -/
def Keep (bd : Addr → Prop) (H H' : Hp) : Prop := ∀ a o, ¬ bd a → H a = some o → H' a = some o
theorem Keep.of {bd : Addr → Prop} {H H' : Hp} (h : Same H H') : Keep bd H H' := fun a o _ e => h a o e
theorem Keep.rd {bd : Addr → Prop} {H H' : Hp} (h : Keep bd H H') {a : Addr} {u : HO} (n : ¬ bd a) (r : Rd H a u) : Rd H' a u := by
  rcases r with r | ⟨o, r⟩
  · exact .inl (h a _ n r)
  · exact .inr ⟨o, h a _ n r⟩
section
variable {P : Program} {w : World} {H H' : Hp} {bd bd' : Addr → Prop}
theorem rd_dom {a : Addr} {u : HO} (r : Rd H a u) : H a ≠ none := by
  rcases r with r | ⟨o, r⟩ <;> (rw [r]; intro z; cases z)
mutual
/-- carried over: what it rests on is kept, and the new bad ones are bad or not there -/
theorem Rep.go (k : Keep bd H H') (hb : ∀ a, bd' a → bd a ∨ H a = none) : ∀ (d : D) (v : V), Rep P w H bd v d → Rep P w H' bd' v d
  | .none, _, h => by cases h; exact .non
  | .bool b, _, h => by cases h; exact .bl b
  | .int i, _, h => by cases h; exact .int i
  | .str x, _, h => by cases h with | str o => exact .str o
  | .list ds, _, h => by
    cases h with
    | lst n r l t => exact .lst (fun z => (hb _ z).elim n (fun e => by rw [r] at e; cases e)) (k _ _ n r) l (RepL.go k hb ds _ t)
  | .tuple ds, _, h => by
    cases h with
    | tup n r l t => exact .tup (fun z => (hb _ z).elim n (fun e => r.dom e)) (r.at fun _ => k _ _ n) l (RepL.go k hb ds _ t)
  | .dict ds, _, h => by
    cases h with
    | dK n r l t => exact .dK (fun z => (hb _ z).elim n (fun e => by rw [r] at e; cases e)) (k _ _ n r) l (RepK.go k hb ds _ t)
    | dN n r l s ne nd t => exact .dN (fun z => (hb _ z).elim n (fun e => by rw [r] at e; cases e)) (k _ _ n r) l s ne nd (RepN.go k hb ds _ t)
theorem RepL.go (k : Keep bd H H') (hb : ∀ a, bd' a → bd a ∨ H a = none) : ∀ (ds : List D) (vs : List V), RepL P w H bd vs ds → RepL P w H' bd' vs ds
  | [], _, h => by cases h; exact .nil
  | d :: ds, _, h => by cases h with | cons a t => exact .cons (Rep.go k hb d _ a) (RepL.go k hb ds _ t)
theorem RepK.go (k : Keep bd H H') (hb : ∀ a, bd' a → bd a ∨ H a = none) : ∀ (ds : List (D × D)) (vs : List (Key × V)), RepK P w H bd vs ds → RepK P w H' bd' vs ds
  | [], _, h => by cases h; exact .nil
  | (x, d) :: ds, _, h => by cases h with | cons o a t => exact .cons o (Rep.go k hb d _ a) (RepK.go k hb ds _ t)
theorem RepN.go (k : Keep bd H H') (hb : ∀ a, bd' a → bd a ∨ H a = none) : ∀ (ds : List (D × D)) (vs : List (NestedKey × Addr × Value)), RepN P w H bd vs ds → RepN P w H' bd' vs ds
  | [], _, h => by cases h; exact .nil
  | (x, d) :: ds, _, h => by cases h with | cons e s i a u b t => exact .cons e s i (Rep.go k hb x _ a) u (Rep.go k hb d _ b) (RepN.go k hb ds _ t)
end
theorem Rep.same (h : Rep P w H bd v d) (s : Same H H') : Rep P w H' bd v d := Rep.go (Keep.of s) (fun _ z => .inl z) d v h
theorem RepL.same (h : RepL P w H bd v d) (s : Same H H') : RepL P w H' bd v d := RepL.go (Keep.of s) (fun _ z => .inl z) d v h
theorem RepK.same (h : RepK P w H bd v d) (s : Same H H') : RepK P w H' bd v d := RepK.go (Keep.of s) (fun _ z => .inl z) d v h
theorem RepN.same (h : RepN P w H bd v d) (s : Same H H') : RepN P w H' bd v d := RepN.go (Keep.of s) (fun _ z => .inl z) d v h
theorem same_rd {H H' : Hp} (s : Same H H') {a : Addr} {u : HO} (r : Rd H a u) : Rd H' a u := by
  rcases r with r | ⟨o, r⟩
  · exact .inl (s a _ r)
  · exact .inr ⟨o, s a _ r⟩
theorem RepT.same {v : V} {d : D} (h : RepT P w H bd v d) (s : Same H H') : RepT P w H' bd v d := by
  cases h with
  | of h => exact .of (h.same s)
  | lst r l t => exact .lst (s _ _ r) l (t.same s)
  | dK r l t => exact .dK (s _ _ r) l (t.same s)
  | dN r l z ne nd t => exact .dN (s _ _ r) l z ne nd (t.same s)
theorem RepL.length : ∀ {vs : List V} {ds : List D}, RepL P w H bd vs ds → vs.length = ds.length
  | _, [], h => by cases h; rfl
  | _, _ :: ds, h => by cases h with | cons _ t => simp [RepL.length t]
theorem RepL.get : ∀ {vs : List V} {ds : List D} {i : Nat} {v : V}, RepL P w H bd vs ds → vs[i]? = some v → ∃ d, ds[i]? = some d ∧ Rep P w H bd v d
  | _, [], _, _, h, e => by cases h; simp at e
  | _, d :: ds, 0, _, h, e => by cases h with | cons a t => simp at e; subst e; exact ⟨d, rfl, a⟩
  | _, d :: ds, i + 1, _, h, e => by
    cases h with
    | cons a t =>
      obtain ⟨d', h1, h2⟩ := RepL.get (i := i) t (by simpa using e)
      exact ⟨d', by simpa using h1, h2⟩
theorem RepL.get' : ∀ {vs : List V} {ds : List D} {i : Nat} {d : D}, RepL P w H bd vs ds → ds[i]? = some d → ∃ v, vs[i]? = some v ∧ Rep P w H bd v d
  | _, [], _, _, h, e => by simp at e
  | _, d :: ds, 0, _, h, e => by cases h with | cons a t => simp at e; subst e; exact ⟨_, rfl, a⟩
  | _, d :: ds, i + 1, _, h, e => by
    cases h with
    | cons a t =>
      obtain ⟨d', h1, h2⟩ := RepL.get' (i := i) t (by simpa using e)
      exact ⟨d', by simpa using h1, h2⟩
theorem RepL.append : ∀ {vs us : List V} {ds es : List D}, RepL P w H bd vs ds → RepL P w H bd us es → RepL P w H bd (vs ++ us) (ds ++ es)
  | _, _, [], _, h, g => by cases h; exact g
  | _, _, d :: ds, _, h, g => by cases h with | cons a t => exact .cons a (RepL.append t g)
theorem RepL.drop : ∀ {vs : List V} {ds : List D} (n : Nat), RepL P w H bd vs ds → RepL P w H bd (vs.drop n) (ds.drop n)
  | _, _, 0, h => by simpa using h
  | _, [], n + 1, h => by cases h; simpa using RepL.nil
  | _, d :: ds, n + 1, h => by cases h with | cons a t => simpa using RepL.drop n t
theorem RepL.take : ∀ {vs : List V} {ds : List D} (n : Nat), RepL P w H bd vs ds → RepL P w H bd (vs.take n) (ds.take n)
  | _, _, 0, h => by simpa using RepL.nil
  | _, [], n + 1, h => by cases h; simpa using RepL.nil
  | _, d :: ds, n + 1, h => by cases h with | cons a t => simpa using RepL.cons a (RepL.take n t)
theorem RepL.reverse : ∀ {vs : List V} {ds : List D}, RepL P w H bd vs ds → RepL P w H bd vs.reverse ds.reverse
  | _, [], h => by cases h; exact .nil
  | _, d :: ds, h => by
    cases h with
    | cons a t =>
      rw [List.reverse_cons, List.reverse_cons]
      exact (RepL.reverse t).append (.cons a .nil)
theorem RepL.set : ∀ {vs : List V} {ds : List D} {v : V} {d : D} (n : Nat), RepL P w H bd vs ds → Rep P w H bd v d → RepL P w H bd (vs.set n v) (ds.set n d)
  | _, [], _, _, n, h, _ => by cases h; simpa using RepL.nil
  | _, e :: ds, _, _, 0, h, r => by cases h with | cons a t => simpa using RepL.cons r t
  | _, e :: ds, _, _, n + 1, h, r => by cases h with | cons a t => simpa using RepL.cons a (RepL.set n t r)
theorem RepL.dropLast {vs : List V} {ds : List D} (h : RepL P w H bd vs ds) : RepL P w H bd vs.dropLast ds.dropLast := by
  rw [List.dropLast_eq_take, List.dropLast_eq_take, h.length]
  exact h.take _
theorem RepL.none_of {vs : List V} {ds : List D} (h : RepL P w H bd vs ds) {i : Nat} (e : vs.length ≤ i) : ds.length ≤ i := by rw [← h.length]; exact e

theorem RepT.listI {v : V} {ds : List D} (h : RepT P w H bd v (.list ds)) : ∃ a xs, v = .ref a ∧ H a = some (.lst xs) ∧ xs.length ≤ sizeLine ∧ RepL P w H bd xs ds := by
  cases h with
  | of h => cases h with | lst n r l t => exact ⟨_, _, rfl, r, l, t⟩
  | lst r l t => exact ⟨_, _, rfl, r, l, t⟩
theorem RepT.tupI {v : V} {ds : List D} (h : RepT P w H bd v (.tuple ds)) : ∃ a xs, v = .ref a ∧ ¬ bd a ∧ TupAt H a xs ∧ xs.length ≤ sizeLine ∧ RepL P w H bd xs ds := by
  cases h with
  | of h => cases h with | tup n r l t => exact ⟨_, _, rfl, n, r, l, t⟩
theorem RepT.strI {v : V} {x : Str} (h : RepT P w H bd v (.str x)) : v = .str x ∧ OkS x := by
  cases h with
  | of h => cases h with | str o => exact ⟨rfl, o⟩
theorem RepT.intI {v : V} {i : Int} (h : RepT P w H bd v (.int i)) : v = .int i := by
  cases h with
  | of h => cases h; rfl
theorem RepT.blI {v : V} {i : Bool} (h : RepT P w H bd v (.bool i)) : v = .bl i := by
  cases h with
  | of h => cases h; rfl
theorem RepT.nonI {v : V} (h : RepT P w H bd v .none) : v = .non := by
  cases h with
  | of h => cases h; rfl
theorem RepT.dictI {v : V} {ds : List (D × D)} (h : RepT P w H bd v (.dict ds)) : ∃ a, v = .ref a ∧
    ((∃ kvs, H a = some (.dK kvs) ∧ kvs.length ≤ sizeLine ∧ RepK P w H bd kvs ds) ∨
      ∃ ep xs, H a = some (BT.dN P w a ep xs) ∧ xs.length ≤ sizeLine ∧ (a == sysModules) = false ∧ xs ≠ [] ∧ (xs.map (·.1)).Nodup ∧ RepN P w H bd xs ds) := by
  cases h with
  | of h =>
    cases h with
    | dK n r l t => exact ⟨_, rfl, .inl ⟨_, r, l, t⟩⟩
    | dN n r l s ne nd t => exact ⟨_, rfl, .inr ⟨_, _, r, l, s, ne, nd, t⟩⟩
  | dK r l t => exact ⟨_, rfl, .inl ⟨_, r, l, t⟩⟩
  | dN r l s ne nd t => exact ⟨_, rfl, .inr ⟨_, _, r, l, s, ne, nd, t⟩⟩

mutual
theorem Rep.dp {K : PySem.W.Frag} : ∀ (d : D) (n : Nat) (v : V), Rep P w H bd v d → shal n d = true → Dp K H v d ∧ d.canLay0 = true ∧ d.depth ≤ n
  | .none, _, _, h, _ => by cases h; exact ⟨.non, by simp [PyData.canLay0], by simp [PyData.depth]⟩
  | .bool b, _, _, h, _ => by cases h; exact ⟨.bl b, by simp [PyData.canLay0], by simp [PyData.depth]⟩
  | .int i, _, _, h, _ => by cases h; exact ⟨.int i, by simp [PyData.canLay0], by simp [PyData.depth]⟩
  | .str x, _, _, h, _ => by cases h with | str o => exact ⟨.str x, by simpa [PyData.canLay0] using o.2, by simp [PyData.depth]⟩
  | .list ds, 0, _, h, e => by simp [shal] at e
  | .list ds, n + 1, _, h, e => by
    cases h with
    | lst nb r l t =>
      obtain ⟨a, b, c⟩ := RepL.dp (K := K) ds n _ t (by simpa [shal] using e)
      exact ⟨.lst (SqL.of r) a, by simpa [PyData.canLay0] using b, by simp [PyData.depth]; exact c⟩
  | .tuple ds, 0, _, h, e => by simp [shal] at e
  | .tuple ds, n + 1, _, h, e => by
    cases h with
    | tup nb r l t =>
      obtain ⟨a, b, c⟩ := RepL.dp (K := K) ds n _ t (by simpa [shal] using e)
      exact ⟨.tup r.sq a, by simpa [PyData.canLay0] using b, by simp [PyData.depth]; exact c⟩
  | .dict _, _, _, _, e => by simp [shal] at e
theorem RepL.dp {K : PySem.W.Frag} : ∀ (ds : List D) (n : Nat) (vs : List V), RepL P w H bd vs ds → shalL n ds = true → DpAll K H vs ds ∧ PyData.canLayAll0 ds = true ∧ PyData.depthAll ds ≤ n
  | [], _, _, h, _ => by cases h; exact ⟨.nil, by simp [PyData.canLayAll0], by simp [PyData.depthAll]⟩
  | d :: ds, n, _, h, e => by
    cases h with
    | cons a t =>
      have e' : shal n d = true ∧ shalL n ds = true := by simpa [shalL] using e
      obtain ⟨a1, b1, c1⟩ := Rep.dp (K := K) d n _ a e'.1
      obtain ⟨a2, b2, c2⟩ := RepL.dp (K := K) ds n _ t e'.2
      exact ⟨.cons a1 a2, by simp [PyData.canLayAll0, b1, b2], by simp [PyData.depthAll]; omega⟩
end
theorem RepT.dp {K : PySem.W.Frag} {n : Nat} {v : V} {d : D} (h : RepT P w H bd v d) (e : shal n d = true) : Dp K H v d ∧ d.canLay0 = true ∧ d.depth ≤ n := by
  cases h with
  | of h => exact Rep.dp d n v h e
  | lst r l t =>
    cases n with
    | zero => simp [shal] at e
    | succ n =>
      obtain ⟨a, b, c⟩ := RepL.dp (K := K) _ n _ t (by simpa [shal] using e)
      exact ⟨.lst (SqL.of r) a, by simpa [PyData.canLay0] using b, by simp [PyData.depth]; exact c⟩
  | dK r l t => simp [shal] at e
  | dN r l s ne nd t => simp [shal] at e
theorem shaped_of {d : D} {n : Nat} (h1 : d.canLay0 = true) (h2 : d.depth ≤ n) (hn : n ≤ 64) : SeqAt.shaped d = true := by
  unfold SeqAt.shaped
  rw [h1, decide_eq_true (by omega)]
  rfl
end
end BT
set_option Elab.async false
set_option linter.all false
set_option maxRecDepth 100000
set_option maxHeartbeats 4000000
/-! BTTup: tuples are made: their objects are known. -/
namespace BT
open PySem PySem.Spec PyProof.Rows L2
/-- a tuple's object, as it is made -/
def tObj (its : List Value) : Obj := { cls := .type "tuple", data := .seq its.toArray }
theorem tObj_ok {P : Program} {w : World} {H : Hp} {h : Heap} {xs : List V} {its : List Value} (hz : xs.length ≤ sizeLine) (r : Vals xs its) : ObjOk P w H (h.push (tObj its)) h.objs.size (.frz (tObj its) (.tup xs)) :=
  ⟨Heap.get?_push_size _ rfl, hz, its, r, ⟨_, Heap.get?_push_size _ rfl, rfl, _, rfl⟩⟩
section
variable {X : Cx}
theorem pe_tupF {es : List Expr} {t : TA} {x1 : Nat} {pos : Pos} (h : PA X es t) : PE X (.Tuple es x1 pos) (fun σ H Q => t σ H fun xs H1 => xs.length ≤ sizeLine ∧ ∀ p o, H1 p = none → o.dict = none → Q (.ref p) (upd H1 p (.frz o (.tup xs)))) := by
  refine ⟨fun pins s σ H Q I hq => ?_⟩
  refine wpAny_Tuple_spliced (thn (h.run pos pins s σ H _ I hq) fun us s1 ⟨xs, H1, I1, r, z, q⟩ => ⟨by rw [← r.length]; exact z, ?_⟩)
  exact ⟨.ref s1.heap.objs.size, upd H1 s1.heap.objs.size (.frz (tObj us) (.tup xs)), I1.laid (t' := s1.toks) (fun b u e => Heap.get?_push_of_some _ e) (Nat.le_refl _) (tObj_ok z r), rfl, q _ _ (I1.hok.fresh (Nat.le_refl _)) rfl⟩
/-- t + u -/
theorem op_catF : OpR X (binaryOp .Add) (fun x y H Q => ∃ a b xs ys, x = .ref a ∧ y = .ref b ∧ SqT X.K H a xs ∧ SqT X.K H b ys ∧ xs.length + ys.length ≤ sizeLine ∧
    (xs = [] → Q (.ref b) H) ∧ (xs ≠ [] → ys = [] → Q (.ref a) H) ∧ (xs ≠ [] → ys ≠ [] → ∀ p o, H p = none → o.dict = none → Q (.ref p) (upd H p (.frz o (.tup (xs ++ ys)))))) := by
  intro pins s σ H x y v u Q I rx ry h
  obtain ⟨a, b, xs, ys, rfl, rfl, ha, hb, hz, q0, q1, q2⟩ := h
  cases rx
  cases ry
  obtain ⟨its, r1, p1, _⟩ := I.tuple ha
  obtain ⟨its2, r2, p2, _⟩ := I.tuple hb
  by_cases hx : xs = []
  · subst hx
    cases r1
    exact cat_tup0 p1 p2 ⟨.ref b, H, I, rfl, q0 rfl⟩
  refine HT.cat_tup p1 p2 (fun z => hx (r1.nil_iff.mp z)) (fun z => ⟨.ref a, H, I, rfl, q1 hx (r2.nil_iff.mp z)⟩) (fun z => ?_) (by rw [← r1.length, ← r2.length]; exact hz)
  exact ⟨.ref s.heap.objs.size, upd H s.heap.objs.size (.frz (tObj (its ++ its2)) (.tup (xs ++ ys))), I.laid (t' := s.toks) (fun b ob q => Heap.get?_push_of_some _ q) (Nat.le_refl _) (tObj_ok (by rw [List.length_append]; exact hz) (r1.append r2)), rfl, q2 hx (fun w => z (r2.nil_iff.mpr w)) _ _ (I.hok.fresh (Nat.le_refl _)) rfl⟩
/-- t[lo:hi] -/
theorem sl_tupF : SlR X (fun x lo hi H Q => ∃ a xs, x = .ref a ∧ SqT X.K H a xs ∧ (HT.sIx xs.length 0 lo = 0 ∧ HT.sIx xs.length xs.length hi = xs.length → Q (.ref a) H) ∧
    (¬ (HT.sIx xs.length 0 lo = 0 ∧ HT.sIx xs.length xs.length hi = xs.length) → ∀ p o, H p = none → o.dict = none → Q (.ref p) (upd H p (.frz o (.tup (cutV xs lo hi)))))) := by
  intro pins s σ H x v vl vu lo hi sl Q I rx hs pl pu h
  obtain ⟨a, xs, rfl, hx, q1, q2⟩ := h
  cases rx
  obtain ⟨its, r, ht, hz⟩ := I.tuple hx
  have hlen : its.toArray.size = xs.length := by rw [List.size_toArray]; exact r.length.symm
  refine ⟨"tuple", _, PyProof.Rows.slot_tuple_getitem.lookup, ht.typeIs, ?_⟩
  by_cases hw : HT.sIx xs.length 0 lo = 0 ∧ HT.sIx xs.length xs.length hi = xs.length
  · exact getItem_tuple_whole ht hs pl pu (by rw [hlen]; exact hw) ⟨.ref a, H, I, rfl, q1 hw⟩
  · refine HT.getItem_tuple_cut ht hs pl pu (by rw [hlen]; exact hw) ?_ (by rw [hlen]; exact hz)
    rw [hlen]
    exact ⟨.ref s.heap.objs.size, upd H s.heap.objs.size (.frz (tObj ((its.drop (HT.sIx xs.length 0 lo)).take (HT.sIx xs.length xs.length hi - HT.sIx xs.length 0 lo))) (.tup (cutV xs lo hi))), I.laid (t' := s.toks) (fun b ob q => Heap.get?_push_of_some _ q) (Nat.le_refl _) (tObj_ok (Nat.le_trans (cutV_length xs lo hi) hz) ((r.drop _).take _)), rfl, q2 hw _ _ (I.hok.fresh (Nat.le_refl _)) rfl⟩
/-- tuple(l), tuple(t) -/
theorem call_tupF : CallR X (.type "tuple") (fun xs H Q => ∃ p ys, xs = [.ref p] ∧ ((SqL X.K H p ys ∧ ∀ l o, H l = none → o.dict = none → Q (.ref l) (upd H l (.frz o (.tup ys)))) ∨ (SqT X.K H p ys ∧ Q (.ref p) H))) := by
  intro pins s σ H xs us Q I r h
  obtain ⟨p, ys, rfl, h⟩ := h
  obtain ⟨u, rfl, rx⟩ := vals1 r
  cases rx
  rcases h with ⟨hq, q⟩ | ⟨hq, q⟩
  · obtain ⟨its, r', pl, hz⟩ := I.list hq
    have hlen := r'.length
    refine call_tuple_list pl.isList (fun h' kp => ?_) (by simp only [List.size_toArray] <;> omega)
    have I1 : Inv X pins σ H { s with heap := h' } := I.kept (t' := s.toks) kp
    exact ⟨.ref h'.objs.size, upd H h'.objs.size (.frz (tObj its) (.tup ys)), I1.laid (t' := s.toks) (fun b o e => Heap.get?_push_of_some _ e) (Nat.le_refl _) (tObj_ok hz r'), rfl, q _ _ (I1.hok.fresh (Nat.le_refl _)) rfl⟩
  · obtain ⟨its, r', pl, hz⟩ := I.tuple hq
    exact call_tuple_same pl ⟨.ref p, H, I, rfl, q⟩
end
end BT
set_option Elab.async false
set_option linter.all false
set_option maxRecDepth 100000
set_option maxHeartbeats 4000000
/-! BTExp: expressions. -/
namespace BT
open PySem PySem.Spec PyProof.Rows L2

theorem pe_imp {X : Cx} {e : Expr} {t t' : TE} (h : PE X e t) (i : ∀ σ H Q, t' σ H Q → t σ H Q) : PE X e t' := ⟨fun pins s σ H Q I q => h.run pins s σ H Q I (i σ H Q q)⟩
theorem pt_imp {X : Cx} {e : Expr} {t t' : TT} (h : PT X e t) (i : ∀ σ H Q, t' σ H Q → t σ H Q) : PT X e t' := ⟨fun pins s σ H Q I q => h.run pins s σ H Q I (i σ H Q q)⟩
theorem pw_imp {X : Cx} {e : Expr} {t t' : TT} (h : PW X e t) (i : ∀ σ H Q, t' σ H Q → t σ H Q) : PW X e t' := ⟨fun wh pins s σ H Q I q => h.run wh pins s σ H Q I (i σ H Q q)⟩
theorem pa_imp {X : Cx} {e : List Expr} {t t' : TA} (h : PA X e t) (i : ∀ σ H Q, t' σ H Q → t σ H Q) : PA X e t' := ⟨fun pos pins s σ H Q I q => h.run pos pins s σ H Q I (i σ H Q q)⟩
theorem ps_imp {X : Cx} {e : Stmt} {t t' : TS} (h : PS X e t) (i : ∀ D σ H, t' D σ H → t D σ H) : PS X e t' := ⟨fun pins s σ H D I q => h.run pins s σ H D I (i D σ H q)⟩
theorem pss_imp {X : Cx} {e : List Stmt} {t t' : TS} (h : PSs X e t) (i : ∀ D σ H, t' D σ H → t D σ H) : PSs X e t' := ⟨fun pins s σ H D I q => h.run pins s σ H D I (i D σ H q)⟩

/-- the changing ones are there -/
def BadIn (bd : Addr → Prop) (H : Hp) : Prop := ∀ a, bd a → H a ≠ none
theorem BadIn.same {bd : Addr → Prop} {H H' : Hp} (h : BadIn bd H) (s : Same H H') : BadIn bd H' := fun a z => by
  cases e : H a with
  | none => exact absurd e (h a z)
  | some o => rw [s a o e]; intro q; cases q
def RepX (P : Program) (w : World) (H : Hp) (bd : Addr → Prop) (b : Bool) (v : V) (d : D) : Prop := if b = true then RepT P w H bd v d else Rep P w H bd v d
theorem RepX.t {P : Program} {w : World} {H : Hp} {bd : Addr → Prop} {b : Bool} {v : V} {d : D} (h : RepX P w H bd b v d) : RepT P w H bd v d := by
  cases b with
  | true => exact h
  | false => exact .of h
theorem RepX.same {P : Program} {w : World} {H H' : Hp} {bd : Addr → Prop} {b : Bool} {v : V} {d : D} (h : RepX P w H bd b v d) (s : Same H H') : RepX P w H' bd b v d := by
  cases b with
  | true => exact RepT.same h s
  | false => exact Rep.same h s
theorem RepX.of {P : Program} {w : World} {H : Hp} {bd : Addr → Prop} {b : Bool} {v : V} {d : D} (h : Rep P w H bd v d) : RepX P w H bd b v d := by
  cases b with
  | true => exact RepT.of h
  | false => exact h
/-- which slots hold what may change; where the script stands, and what it holds -/
structure Lc where
  kl : Addr → List V → Prop
  lin : List Nat
  scr : Option (Nat × List Int)
  n : Nat
  only : Bool
def ScrOk (lin : Lc) (σ : L2.St) (H : Hp) : Prop := ∀ i ns, lin.scr = some (i, ns) → ∃ a o, σ[i]? = some (some (.ref a)) ∧ (lin.kl a (ns.map V.int) ∨ (lin.only = false ∧ H a = some (.frz o (.lst (ns.map V.int)))))
structure EnvOk (P : Program) (w : World) (bd : Addr → Prop) (lin : Lc) (r : En) (σ : L2.St) (H : Hp) : Prop where
  vals : ∀ i d, r[i]? = some (some d) → ∃ v, σ[i]? = some (some v) ∧ RepX P w H bd (decide (i ∈ lin.lin)) v d
  scr : ScrOk lin σ H
theorem EnvOk.same {P : Program} {w : World} {bd : Addr → Prop} {lin : Lc} {r : En} {σ : L2.St} {H H' : Hp} (h : EnvOk P w bd lin r σ H) (s : Same H H') : EnvOk P w bd lin r σ H' where
  vals := fun i d e => by
    obtain ⟨v, e1, h1⟩ := h.vals i d e
    exact ⟨v, e1, h1.same s⟩
  scr := fun i ns e => by
    obtain ⟨a, o, e1, h1⟩ := h.scr i ns e
    exact ⟨a, o, e1, h1.imp id fun z => ⟨z.1, s _ _ z.2⟩⟩
/-- what is wished of an error of an own class -/
abbrev WishX := Str → L2.St → Hp → Prop
def wx (mg : Str → Option Value) (W : WishX) : WX := fun cls d σ H => d = none ∧ ∃ c, mg c = some cls ∧ W c σ H

/-- the reading of an expression that f tells -/
def ER (X : Cx) (W : WishX) (lin : Lc) (b : Bool) (f : En → R D) : TE := fun σ H Q => ∃ bd r, BadIn bd H ∧ EnvOk X.prog X.w bd lin r σ H ∧
  match f r with
  | .ok d => ∀ v H', Same H H' → RepX X.prog X.w H' bd b v d → Q v H'
  | .exc c => ∀ H', Same H H' → W c σ H'
  | .bad => False
/-- .. of a test -/
def TR (X : Cx) (W : WishX) (lin : Lc) (f : En → R Bool) : TT := fun σ H Q => ∃ bd r, BadIn bd H ∧ EnvOk X.prog X.w bd lin r σ H ∧
  match f r with
  | .ok k => ∀ H', Same H H' → Q k H'
  | .exc c => ∀ H', Same H H' → W c σ H'
  | .bad => False
inductive RepTL (P : Program) (w : World) (H : Hp) (bd : Addr → Prop) : List V → List D → Prop
  | nil : RepTL P w H bd [] []
  | cons {v : V} {vs : List V} {d : D} {ds : List D} : RepT P w H bd v d → RepTL P w H bd vs ds → RepTL P w H bd (v :: vs) (d :: ds)
theorem RepTL.same {P : Program} {w : World} {H H' : Hp} {bd : Addr → Prop} {vs : List V} {ds : List D} (h : RepTL P w H bd vs ds) (s : Same H H') : RepTL P w H' bd vs ds := by
  induction h with
  | nil => exact .nil
  | cons a _ ih => exact .cons (a.same s) ih
/-- .. of arguments -/
def AR (X : Cx) (W : WishX) (lin : Lc) (f : En → R (List D)) : TA := fun σ H Q => ∃ bd r, BadIn bd H ∧ EnvOk X.prog X.w bd lin r σ H ∧
  match f r with
  | .ok ds => ∀ vs H', Same H H' → RepL X.prog X.w H' bd vs ds → Q vs H'
  | .exc c => ∀ H', Same H H' → W c σ H'
  | .bad => False
def ARt (X : Cx) (W : WishX) (lin : Lc) (f : En → R (List D)) : TA := fun σ H Q => ∃ bd r, BadIn bd H ∧ EnvOk X.prog X.w bd lin r σ H ∧
  match f r with
  | .ok ds => ∀ vs H', Same H H' → RepTL X.prog X.w H' bd vs ds → Q vs H'
  | .exc c => ∀ H', Same H H' → W c σ H'
  | .bad => False

section
variable {X : Cx} {W : WishX} {lin : Lc}
/-- behind a first expression -/
theorem ER.step {b : Bool} {f : En → R D} {bd : Addr → Prop} {r : En} {σ : L2.St} {H : Hp} {Q : VK} (hb : BadIn bd H) (he : EnvOk X.prog X.w bd lin r σ H)
    (hok : ∀ d, f r = .ok d → ∀ v H', Same H H' → RepX X.prog X.w H' bd b v d → Q v H') (hexc : ∀ c, f r = .exc c → ∀ H', Same H H' → W c σ H') (hbad : f r ≠ .bad) : ER X W lin b f σ H Q := by
  refine ⟨bd, r, hb, he, ?_⟩
  cases e : f r with
  | ok d => exact hok d e
  | exc c => exact hexc c e
  | bad => exact hbad e
/-- one expression, then what depends on its value -/
theorem ER.bind {b b2 : Bool} {f : En → R D} {g : D → En → R D} {σ : L2.St} {H : Hp} {Q : VK} {K : VK}
    (h : ER X W lin b2 (fun r => (f r).bind fun x => g x r) σ H Q)
    (k : ∀ bd r d v H', BadIn bd H' → EnvOk X.prog X.w bd lin r σ H' → f r = .ok d → RepX X.prog X.w H' bd b v d →
      (match g d r with
        | .ok d => ∀ v H2, Same H' H2 → RepX X.prog X.w H2 bd b2 v d → Q v H2
        | .exc c => ∀ H2, Same H' H2 → W c σ H2
        | .bad => False) → K v H') : ER X W lin b f σ H K := by
  obtain ⟨bd, r, hb, he, q⟩ := h
  refine ⟨bd, r, hb, he, ?_⟩
  cases e : f r with
  | bad => simp only [e, R.bind_bad] at q
  | exc c => simp only [e, R.bind_exc] at q; exact q
  | ok d =>
    simp only [e, R.bind_ok] at q
    intro v H' s rv
    refine k bd r d v H' (hb.same s) (he.same s) e rv ?_
    cases e2 : g d r with
    | bad => simp only [e2] at q
    | exc c => simp only [e2] at q; exact fun H2 s2 => q H2 (s.trans s2)
    | ok d2 => simp only [e2] at q; exact fun v2 H2 s2 => q v2 H2 (s.trans s2)

/-! ### names and constants -/
theorem get_ok {r : En} {i : Nat} {d : D} (h : get r i = .ok d) : r[i]? = some (some d) := by
  unfold get at h
  split at h
  · injection h with h; subst h; assumption
  · cases h
theorem get_noexc {r : En} {i : Nat} {c : Str} : get r i ≠ .exc c := by
  unfold get
  split <;> (intro z; cases z)
theorem s_var {i : Nat} {x : Str} {pos : Pos} (hN : X.N[i]? = some x) (hv : Vis X.env.scope x) (hd : (x == ("__debug__" : Str)) = false) (hcd : (x == ("__classdict__" : Str)) = false) :
    PE X (.Name x pos) (ER X W lin (decide (i ∈ lin.lin)) fun r => get r i) := by
  refine pe_imp (pe_var hN hv hd hcd) fun σ H Q h => ?_
  obtain ⟨bd, r, hb, he, q⟩ := h
  cases e : get r i with
  | bad => simp only [e] at q
  | exc c => exact (get_noexc e).elim
  | ok d =>
    simp only [e] at q
    obtain ⟨v, e1, rv⟩ := he.vals i d (get_ok e)
    exact ⟨v, e1, q v H (Same.refl H) rv⟩
theorem s_const {e : Expr} {v : V} {d : D} (h : PE X e (tC v)) (hr : ∀ H bd, Rep X.prog X.w H bd v d) : PE X e (ER X W lin false fun _ => .ok d) := by
  refine pe_imp h fun σ H Q h => ?_
  obtain ⟨bd, r, hb, he, q⟩ := h
  exact q v H (Same.refl H) (hr H bd)

/-! ### argument lists -/
theorem a_nil : PA X [] (AR X W lin fun _ => .ok []) := by
  refine pa_imp pa_nil fun σ H Q h => ?_
  obtain ⟨bd, r, hb, he, q⟩ := h
  exact q [] H (Same.refl H) .nil
theorem at_nil : PA X [] (ARt X W lin fun _ => .ok []) := by
  refine pa_imp pa_nil fun σ H Q h => ?_
  obtain ⟨bd, r, hb, he, q⟩ := h
  exact q [] H (Same.refl H) .nil
theorem a_cons {e : Expr} {es : List Expr} {f : En → R D} {g : En → R (List D)} (ha : PE X e (ER X W lin false f)) (hr : PA X es (AR X W lin g)) (hs : starEach (e :: es) X.env = (false, eval e X.env) :: starEach es X.env) :
    PA X (e :: es) (AR X W lin fun r => (f r).bind fun d => (g r).bind fun ds => .ok (d :: ds)) := by
  refine pa_imp (pa_cons ha hr hs) fun σ H Q h => ?_
  obtain ⟨bd, r, hb, he, q⟩ := h
  refine ⟨bd, r, hb, he, ?_⟩
  cases e1 : f r with
  | bad => simp only [e1, R.bind_bad] at q
  | exc c => simp only [e1, R.bind_exc] at q; exact q
  | ok d =>
    simp only [e1, R.bind_ok] at q
    intro v H1 s1 rv
    refine ⟨bd, r, hb.same s1, he.same s1, ?_⟩
    cases e2 : g r with
    | bad => simp only [e2, R.bind_bad] at q
    | exc c => simp only [e2, R.bind_exc] at q; exact fun H2 s2 => q H2 (s1.trans s2)
    | ok ds =>
      simp only [e2, R.bind_ok] at q
      exact fun vs H2 s2 rs => q (v :: vs) H2 (s1.trans s2) (.cons (Rep.same rv s2) rs)
theorem at_cons {b : Bool} {e : Expr} {es : List Expr} {f : En → R D} {g : En → R (List D)} (ha : PE X e (ER X W lin b f)) (hr : PA X es (ARt X W lin g)) (hs : starEach (e :: es) X.env = (false, eval e X.env) :: starEach es X.env) :
    PA X (e :: es) (ARt X W lin fun r => (f r).bind fun d => (g r).bind fun ds => .ok (d :: ds)) := by
  refine pa_imp (pa_cons ha hr hs) fun σ H Q h => ?_
  obtain ⟨bd, r, hb, he, q⟩ := h
  refine ⟨bd, r, hb, he, ?_⟩
  cases e1 : f r with
  | bad => simp only [e1, R.bind_bad] at q
  | exc c => simp only [e1, R.bind_exc] at q; exact q
  | ok d =>
    simp only [e1, R.bind_ok] at q
    intro v H1 s1 rv
    refine ⟨bd, r, hb.same s1, he.same s1, ?_⟩
    cases e2 : g r with
    | bad => simp only [e2, R.bind_bad] at q
    | exc c => simp only [e2, R.bind_exc] at q; exact fun H2 s2 => q H2 (s1.trans s2)
    | ok ds =>
      simp only [e2, R.bind_ok] at q
      exact fun vs H2 s2 rs => q (v :: vs) H2 (s1.trans s2) (.cons (rv.t.same s2) rs)

/-! ### new objects -/
theorem same_upd {H : Hp} {p : Addr} {o : HO} (h : H p = none) : Same H (upd H p o) := fun a u e => by
  rw [upd_ne (ne_of_none e h)]; exact e
theorem new_lst {P : Program} {w : World} {H : Hp} {bd : Addr → Prop} {p : Addr} {vs : List V} {ds : List D} (hb : BadIn bd H) (hp : H p = none) (hl : vs.length ≤ sizeLine) (r : RepL P w H bd vs ds) : Rep P w (upd H p (.lst vs)) bd (.ref p) (.list ds) :=
  .lst (fun z => hb p z hp) upd_same hl (r.same (same_upd hp))
theorem new_tup {P : Program} {w : World} {H : Hp} {bd : Addr → Prop} {p : Addr} {vs : List V} {ds : List D} {o : Obj} (ho : o.dict = none) (hb : BadIn bd H) (hp : H p = none) (hl : vs.length ≤ sizeLine) (r : RepL P w H bd vs ds) : Rep P w (upd H p (.frz o (.tup vs))) bd (.ref p) (.tuple ds) :=
  .tup (fun z => hb p z hp) ⟨o, upd_same, ho⟩ hl (r.same (same_upd hp))
theorem s_tup {es : List Expr} {k : Nat} {pos : Pos} {f : En → R (List D)} (h : PA X es (AR X W lin f)) (hl : ∀ r ds, f r = .ok ds → ds.length ≤ sizeLine) : PE X (.Tuple es k pos) (ER X W lin false fun r => (f r).bind fun ds => .ok (.tuple ds)) := by
  refine pe_imp (pe_tupF h) fun σ H Q h => ?_
  obtain ⟨bd, r, hb, he, q⟩ := h
  refine ⟨bd, r, hb, he, ?_⟩
  cases e1 : f r with
  | bad => simp only [e1, R.bind_bad] at q
  | exc c => simp only [e1, R.bind_exc] at q; exact q
  | ok ds =>
    simp only [e1, R.bind_ok] at q
    intro vs H1 s1 rs
    have hz : vs.length ≤ sizeLine := by rw [rs.length]; exact hl r ds e1
    exact ⟨hz, fun p o hp ho => q _ _ (s1.trans (same_upd hp)) (new_tup ho (hb.same s1) hp hz rs)⟩
theorem s_lst {es : List Expr} {pos : Pos} {f : En → R (List D)} (h : PA X es (AR X W lin f)) (hl : ∀ r ds, f r = .ok ds → ds.length ≤ sizeLine) : PE X (.List es pos) (ER X W lin false fun r => (f r).bind fun ds => .ok (.list ds)) := by
  refine pe_imp (pe_lst h) fun σ H Q h => ?_
  obtain ⟨bd, r, hb, he, q⟩ := h
  refine ⟨bd, r, hb, he, ?_⟩
  cases e1 : f r with
  | bad => simp only [e1, R.bind_bad] at q
  | exc c => simp only [e1, R.bind_exc] at q; exact q
  | ok ds =>
    simp only [e1, R.bind_ok] at q
    intro vs H1 s1 rs
    have hz : vs.length ≤ sizeLine := by rw [rs.length]; exact hl r ds e1
    exact ⟨hz, fun p hp => q _ _ (s1.trans (same_upd hp)) (new_lst (hb.same s1) hp hz rs)⟩

/-! ### operators by any rule -/
def anyOp (X : Cx) (f : Value → Value → Sem Value) : R2 := fun x y H Q => ∃ rr, OpR X f rr ∧ rr x y H Q
theorem any_op {f : Value → Value → Sem Value} : OpR X f (anyOp X f) := fun pins s σ H x y v u Q I rx ry h => by
  obtain ⟨rr, ho, q⟩ := h
  exact ho pins s σ H x y v u Q I rx ry q
/-- what a rule of two values must give -/
def Op2 (X : Cx) (f : Value → Value → Sem Value) (g : D → D → R D) : Prop := ∀ dx dy,
  (∀ c, g dx dy ≠ .exc c) ∧ ∀ d, g dx dy = .ok d → ∀ bd x y H Q, BadIn bd H → RepT X.prog X.w H bd x dx → RepT X.prog X.w H bd y dy →
    (∀ v H', Same H H' → Rep X.prog X.w H' bd v d → Q v H') → anyOp X f x y H Q
theorem er_op2 {f : Value → Value → Sem Value} {g : D → D → R D} {b1 b2 : Bool} {fa fb : En → R D} (ho : Op2 X f g) {σ : L2.St} {H : Hp} {Q : VK}
    (h : ER X W lin false (fun r => (fa r).bind fun x => (fb r).bind fun y => g x y) σ H Q) : tOp (anyOp X f) (ER X W lin b1 fa) (ER X W lin b2 fb) σ H Q := by
  refine ER.bind (b := b1) (g := fun x r => (fb r).bind fun y => g x y) h fun bd r d v H1 hb he e1 rv q => ?_
  refine ⟨bd, r, hb, he, ?_⟩
  cases e2 : fb r with
  | bad => simp only [e2, R.bind_bad] at q
  | exc c => simp only [e2, R.bind_exc] at q; exact q
  | ok d2 =>
    simp only [e2, R.bind_ok] at q
    intro v2 H2 s2 rv2
    cases e3 : g d d2 with
    | bad => simp only [e3] at q
    | exc c => exact ((ho d d2).1 c e3).elim
    | ok d3 =>
      simp only [e3] at q
      exact (ho d d2).2 d3 e3 bd v v2 H2 Q (hb.same s2) (rv.t.same s2) rv2.t fun v3 H3 s3 r3 => q v3 H3 (s2.trans s3) r3
theorem s_bin {op : Operator} {a b : Expr} {pos : Pos} {b1 b2 : Bool} {fa fb : En → R D} {g : D → D → R D} (ho : Op2 X (binaryOp op) g) (ha : PE X a (ER X W lin b1 fa)) (hb : PE X b (ER X W lin b2 fb)) :
    PE X (.BinOp a op b pos) (ER X W lin false fun r => (fa r).bind fun x => (fb r).bind fun y => g x y) :=
  pe_imp (pe_op any_op ha hb) fun _ _ _ h => er_op2 ho h
theorem s_cmp {op : CmpOp} {a b : Expr} {pos : Pos} {b1 b2 : Bool} {fa fb : En → R D} {g : D → D → R D} (ho : Op2 X (compareOp op) g) (ha : PE X a (ER X W lin b1 fa)) (hb : PE X b (ER X W lin b2 fb)) (hm : behindInMarks op b = false) :
    PE X (.Compare a [op] [b] pos) (ER X W lin false fun r => (fa r).bind fun x => (fb r).bind fun y => g x y) :=
  pe_imp (pe_cmpR any_op ha hb hm) fun _ _ _ h => er_op2 ho h
/-- an expression that tells a bool, as a test -/
theorem tr_of_er {b : Bool} {f : En → R D} {g : En → R Bool} {σ : L2.St} {H : Hp} {Q : Bool → Hp → Prop} (hg : ∀ r, f r = (g r).bind fun k => .ok (.bool k)) (h : TR X W lin g σ H Q) : ER X W lin b f σ H (fun x H' => ∃ k, x = .bl k ∧ Q k H') := by
  obtain ⟨bd, r, hb, he, q⟩ := h
  refine ⟨bd, r, hb, he, ?_⟩
  cases e : g r with
  | bad => simp only [e] at q
  | exc c => simp only [e] at q; simp only [hg, e, R.bind_exc]; exact q
  | ok k =>
    simp only [e] at q
    simp only [hg, e, R.bind_ok]
    intro v H' s rv
    exact ⟨k, rv.t.blI, q H' s⟩
theorem t_cmp {op : CmpOp} {a b : Expr} {pos : Pos} {b1 b2 : Bool} {fa fb : En → R D} {g : D → D → R Bool} (ho : Op2 X (compareOp op) (fun x y => (g x y).bind fun k => .ok (.bool k))) (ha : PE X a (ER X W lin b1 fa)) (hb : PE X b (ER X W lin b2 fb)) (hm : behindInMarks op b = false) :
    PT X (.Compare a [op] [b] pos) (TR X W lin fun r => (fa r).bind fun x => (fb r).bind fun y => g x y) := by
  refine pt_imp (pt_cmpR any_op ha hb hm) fun σ H Q h => ?_
  have hh := tr_of_er (X := X) (W := W) (lin := lin) (b := false) (f := fun r => (fa r).bind fun x => (fb r).bind fun y => (g x y).bind fun k => .ok (.bool k)) (g := fun r => (fa r).bind fun x => (fb r).bind fun y => g x y) (fun r => by
    cases fa r <;> simp
    cases fb r <;> simp) h
  exact er_op2 (b1 := b1) (b2 := b2) ho hh
/-- a test by an expression's truth -/
theorem truV {P : Program} {w : World} {K : PySem.W.Frag} {H : Hp} {bd : Addr → Prop} {v : V} {d : D} {k : Bool} (h : RepT P w H bd v d) (e : tst d = .ok k) : TruV K v H k := by
  cases d with
  | none => rw [h.nonI]; injection e with e; subst e; rfl
  | bool b => rw [h.blI]; injection e with e; subst e; rfl
  | int i => rw [h.intI]; injection e with e; subst e; rfl
  | str x =>
    obtain ⟨e1, o⟩ := h.strI
    rw [e1]
    injection e with e; subst e
    refine ⟨o.1, ?_⟩
    cases x.length with
    | zero => rfl
    | succ n => simp; omega
  | list xs =>
    obtain ⟨a, vs, rfl, r, l, t⟩ := h.listI
    injection e with e; subst e
    refine .inl ⟨vs, SqL.of r, ?_⟩
    have e := t.length
    cases xs <;> cases vs <;> simp at e ⊢
  | tuple xs =>
    obtain ⟨a, vs, rfl, n, r, l, t⟩ := h.tupI
    injection e with e; subst e
    refine .inr (.inl ⟨vs, r.sq, ?_⟩)
    have e := t.length
    cases xs <;> cases vs <;> simp at e ⊢
  | dict kvs => cases e
theorem tst_noexc {d : D} {c : Str} : tst d ≠ .exc c := by cases d <;> (intro z; cases z)
theorem t_truth {a : Expr} {b : Bool} {f : En → R D} (ha : PE X a (ER X W lin b f)) (he : ∀ whole, isTrue a X.env whole = (do let v ← whole; standAt a.pos; holding [v] (truthy v))) : PT X a (TR X W lin fun r => (f r).bind tst) := by
  refine pt_imp (pt_truth ha he) fun σ H Q h => ?_
  obtain ⟨bd, r, hb, hen, q⟩ := h
  refine ⟨bd, r, hb, hen, ?_⟩
  cases e1 : f r with
  | bad => simp only [e1, R.bind_bad] at q
  | exc c => simp only [e1, R.bind_exc] at q; exact q
  | ok d =>
    simp only [e1, R.bind_ok] at q
    intro v H1 s1 rv
    cases e2 : tst d with
    | bad => simp only [e2] at q
    | exc c => exact (tst_noexc e2).elim
    | ok k =>
      simp only [e2] at q
      exact ⟨k, truV rv.t e2, q H1 s1⟩
end
end BT
set_option Elab.async false
set_option linter.all false
set_option maxRecDepth 100000
set_option maxHeartbeats 4000000
/-! BTExp2: and, or, not, conditional expressions, chains, calls of own defs. -/
namespace BT
open PySem PySem.Spec PyProof.Rows L2

section
variable {X : Cx} {W : WishX} {lin : Lc}
theorem TR.bindE {b : Bool} {f : En → R D} {g : D → En → R Bool} {σ : L2.St} {H : Hp} {Q : Bool → Hp → Prop} {K : VK}
    (h : TR X W lin (fun r => (f r).bind fun x => g x r) σ H Q)
    (k : ∀ bd r d v H', BadIn bd H' → EnvOk X.prog X.w bd lin r σ H' → f r = .ok d → RepX X.prog X.w H' bd b v d →
      (match g d r with
        | .ok c => ∀ H2, Same H' H2 → Q c H2
        | .exc c => ∀ H2, Same H' H2 → W c σ H2
        | .bad => False) → K v H') : ER X W lin b f σ H K := by
  obtain ⟨bd, r, hb, he, q⟩ := h
  refine ⟨bd, r, hb, he, ?_⟩
  cases e : f r with
  | bad => simp only [e, R.bind_bad] at q
  | exc c => simp only [e, R.bind_exc] at q; exact q
  | ok d =>
    simp only [e, R.bind_ok] at q
    intro v H' s rv
    refine k bd r d v H' (hb.same s) (he.same s) e rv ?_
    cases e2 : g d r with
    | bad => simp only [e2] at q
    | exc c => simp only [e2] at q; exact fun H2 s2 => q H2 (s.trans s2)
    | ok d2 => simp only [e2] at q; exact fun H2 s2 => q H2 (s.trans s2)
theorem TR.bindT {f : En → R Bool} {g : Bool → En → R Bool} {σ : L2.St} {H : Hp} {Q : Bool → Hp → Prop} {K : Bool → Hp → Prop}
    (h : TR X W lin (fun r => (f r).bind fun x => g x r) σ H Q)
    (k : ∀ bd r d H', BadIn bd H' → EnvOk X.prog X.w bd lin r σ H' → f r = .ok d →
      (match g d r with
        | .ok c => ∀ H2, Same H' H2 → Q c H2
        | .exc c => ∀ H2, Same H' H2 → W c σ H2
        | .bad => False) → K d H') : TR X W lin f σ H K := by
  obtain ⟨bd, r, hb, he, q⟩ := h
  refine ⟨bd, r, hb, he, ?_⟩
  cases e : f r with
  | bad => simp only [e, R.bind_bad] at q
  | exc c => simp only [e, R.bind_exc] at q; exact q
  | ok d =>
    simp only [e, R.bind_ok] at q
    intro H' s
    refine k bd r d H' (hb.same s) (he.same s) e ?_
    cases e2 : g d r with
    | bad => simp only [e2] at q
    | exc c => simp only [e2] at q; exact fun H2 s2 => q H2 (s.trans s2)
    | ok d2 => simp only [e2] at q; exact fun H2 s2 => q H2 (s.trans s2)
/-- a test, then an expression -/
theorem ER.bindT {b2 : Bool} {f : En → R Bool} {g : Bool → En → R D} {σ : L2.St} {H : Hp} {Q : VK} {K : Bool → Hp → Prop}
    (h : ER X W lin b2 (fun r => (f r).bind fun x => g x r) σ H Q)
    (k : ∀ bd r d H', BadIn bd H' → EnvOk X.prog X.w bd lin r σ H' → f r = .ok d →
      (match g d r with
        | .ok d => ∀ v H2, Same H' H2 → RepX X.prog X.w H2 bd b2 v d → Q v H2
        | .exc c => ∀ H2, Same H' H2 → W c σ H2
        | .bad => False) → K d H') : TR X W lin f σ H K := by
  obtain ⟨bd, r, hb, he, q⟩ := h
  refine ⟨bd, r, hb, he, ?_⟩
  cases e : f r with
  | bad => simp only [e, R.bind_bad] at q
  | exc c => simp only [e, R.bind_exc] at q; exact q
  | ok d =>
    simp only [e, R.bind_ok] at q
    intro H' s
    refine k bd r d H' (hb.same s) (he.same s) e ?_
    cases e2 : g d r with
    | bad => simp only [e2] at q
    | exc c => simp only [e2] at q; exact fun H2 s2 => q H2 (s.trans s2)
    | ok d2 => simp only [e2] at q; exact fun v2 H2 s2 => q v2 H2 (s.trans s2)

/-! ### not, and, or as values -/
theorem s_not {a : Expr} {pos : Pos} {b : Bool} {f : En → R D} (ha : PE X a (ER X W lin b f)) : PE X (.UnaryOp .Not a pos) (ER X W lin false fun r => (f r).bind fun x => (tst x).bind fun k => .ok (.bool (!k))) := by
  refine pe_imp (pe_notT ha) fun σ H Q h => ?_
  refine ER.bind (b := b) (g := fun x r => (tst x).bind fun k => .ok (.bool (!k))) h fun bd r d v H1 hb he e1 rv q => ?_
  cases e2 : tst d with
  | bad => simp only [e2, R.bind_bad] at q
  | exc c => exact (tst_noexc e2).elim
  | ok k =>
    simp only [e2, R.bind_ok] at q
    exact ⟨k, truV rv.t e2, q _ H1 (Same.refl _) (.bl _)⟩
theorem s_one {op : BoolOp} {a : Expr} {pos : Pos} {b : Bool} {f : En → R D} (ha : PE X a (ER X W lin b f)) : PE X (.BoolOp op [a] pos) (ER X W lin b f) := pe_one ha
theorem s_and {a b : Expr} {rest : List Expr} {pos : Pos} {f g : En → R D} (ha : PE X a (ER X W lin false f)) (hb : PE X (.BoolOp .And (b :: rest) pos) (ER X W lin false g)) :
    PE X (.BoolOp .And (a :: b :: rest) pos) (ER X W lin false fun r => (f r).bind fun x => (tst x).bind fun k => if k then g r else .ok x) := by
  refine pe_imp (pe_andT ha hb) fun σ H Q h => ?_
  refine ER.bind (b := false) (g := fun x r => (tst x).bind fun k => if k then g r else .ok x) h fun bd r d v H1 hb he e1 rv q => ?_
  cases e2 : tst d with
  | bad => simp only [e2, R.bind_bad] at q
  | exc c => exact (tst_noexc e2).elim
  | ok k =>
    simp only [e2, R.bind_ok] at q
    refine ⟨k, truV rv.t e2, ?_⟩
    cases k with
    | true => exact ⟨bd, r, hb, he, q⟩
    | false => exact q v H1 (Same.refl _) rv
theorem s_or {a b : Expr} {rest : List Expr} {pos : Pos} {f g : En → R D} (ha : PE X a (ER X W lin false f)) (hb : PE X (.BoolOp .Or (b :: rest) pos) (ER X W lin false g)) :
    PE X (.BoolOp .Or (a :: b :: rest) pos) (ER X W lin false fun r => (f r).bind fun x => (tst x).bind fun k => if k then .ok x else g r) := by
  refine pe_imp (pe_orT ha hb) fun σ H Q h => ?_
  refine ER.bind (b := false) (g := fun x r => (tst x).bind fun k => if k then .ok x else g r) h fun bd r d v H1 hb he e1 rv q => ?_
  cases e2 : tst d with
  | bad => simp only [e2, R.bind_bad] at q
  | exc c => exact (tst_noexc e2).elim
  | ok k =>
    simp only [e2, R.bind_ok] at q
    refine ⟨k, truV rv.t e2, ?_⟩
    cases k with
    | true => exact q v H1 (Same.refl _) rv
    | false => exact ⟨bd, r, hb, he, q⟩
theorem s_ife {c a b : Expr} {pos : Pos} {ft : En → R Bool} {fa fb : En → R D} (hc : PT X c (TR X W lin ft)) (ha : PE X a (ER X W lin false fa)) (hb : PE X b (ER X W lin false fb)) :
    PE X (.IfExp c a b pos) (ER X W lin false fun r => (ft r).bind fun k => if k then fa r else fb r) := by
  refine pe_imp (pe_ifExp hc ha hb) fun σ H Q h => ?_
  refine ER.bindT (g := fun k r => if k then fa r else fb r) h fun bd r d H1 hb he e1 q => ?_
  cases d with
  | true => exact ⟨bd, r, hb, he, q⟩
  | false => exact ⟨bd, r, hb, he, q⟩

/-! ### tests -/
theorem t_not {a : Expr} {pos : Pos} {f : En → R Bool} (ha : PT X a (TR X W lin f)) : PT X (.UnaryOp .Not a pos) (TR X W lin fun r => (f r).bind fun k => .ok (!k)) := by
  refine pt_imp (pt_not ha) fun σ H Q h => ?_
  refine TR.bindT (g := fun k r => .ok (!k)) h fun bd r d H1 hb he e1 q => ?_
  exact q H1 (Same.refl _)
theorem t_and1 {a : Expr} {pos : Pos} {f : En → R Bool} (ha : PT X a (TR X W lin f)) : PW X (.BoolOp .And [a] pos) (TR X W lin f) := pw_and1 ha
theorem t_or1 {a : Expr} {pos : Pos} {f : En → R Bool} (ha : PT X a (TR X W lin f)) : PW X (.BoolOp .Or [a] pos) (TR X W lin f) := pw_or1 ha
theorem t_and {a b : Expr} {rest : List Expr} {pos : Pos} {f g : En → R Bool} (ha : PT X a (TR X W lin f)) (hb : PW X (.BoolOp .And (b :: rest) pos) (TR X W lin g)) :
    PW X (.BoolOp .And (a :: b :: rest) pos) (TR X W lin fun r => (f r).bind fun k => if k then g r else .ok false) := by
  refine pw_imp (pw_and ha hb) fun σ H Q h => ?_
  refine TR.bindT (g := fun k r => if k then g r else .ok false) h fun bd r d H1 hb he e1 q => ?_
  cases d with
  | true => exact ⟨bd, r, hb, he, q⟩
  | false => exact q H1 (Same.refl _)
theorem t_or {a b : Expr} {rest : List Expr} {pos : Pos} {f g : En → R Bool} (ha : PT X a (TR X W lin f)) (hb : PW X (.BoolOp .Or (b :: rest) pos) (TR X W lin g)) :
    PW X (.BoolOp .Or (a :: b :: rest) pos) (TR X W lin fun r => (f r).bind fun k => if k then .ok true else g r) := by
  refine pw_imp (pw_or ha hb) fun σ H Q h => ?_
  refine TR.bindT (g := fun k r => if k then .ok true else g r) h fun bd r d H1 hb he e1 q => ?_
  cases d with
  | true => exact q H1 (Same.refl _)
  | false => exact ⟨bd, r, hb, he, q⟩
theorem pt_congr {e : Expr} {f g : En → R Bool} (h : PT X e (TR X W lin f)) (e1 : ∀ r, g r = f r) : PT X e (TR X W lin g) := by
  have : g = f := funext e1
  rw [this]; exact h
theorem pw_congr {e : Expr} {f g : En → R Bool} (h : PW X e (TR X W lin f)) (e1 : ∀ r, g r = f r) : PW X e (TR X W lin g) := by
  have : g = f := funext e1
  rw [this]; exact h

/-! ### chains of two comparisons -/
/-- what a comparison must give -/
abbrev Cmp2 (X : Cx) (op : CmpOp) (g : D → D → R Bool) : Prop := Op2 X (compareOp op) fun x y => (g x y).bind fun k => .ok (.bool k)
theorem Cmp2.ne {op : CmpOp} {g : D → D → R Bool} (h : Cmp2 X op g) (x y : D) (c : Str) : g x y ≠ .exc c := fun e => (h x y).1 c (by simp only [e, R.bind_exc])
theorem er_chain {op op' : CmpOp} {g g' : D → D → R Bool} {b1 b2 b3 : Bool} {fa fb fc : En → R D} (ho : Cmp2 X op g) (ho' : Cmp2 X op' g') {σ : L2.St} {H : Hp} {Q : VK}
    (h : ER X W lin false (fun r => (fa r).bind fun x => (fb r).bind fun y => (g x y).bind fun k => if k then (fc r).bind fun z => (g' y z).bind fun k => .ok (.bool k) else .ok (.bool false)) σ H Q) :
    tChain (anyOp X (compareOp op)) (anyOp X (compareOp op')) (ER X W lin b1 fa) (ER X W lin b2 fb) (ER X W lin b3 fc) σ H Q := by
  refine ER.bind (b := b1) (g := fun x r => (fb r).bind fun y => (g x y).bind fun k => if k then (fc r).bind fun z => (g' y z).bind fun k => .ok (.bool k) else .ok (.bool false)) h fun bd r d v H1 hb he e1 rv q => ?_
  refine ⟨bd, r, hb, he, ?_⟩
  cases e2 : fb r with
  | bad => simp only [e2, R.bind_bad] at q
  | exc c => simp only [e2, R.bind_exc] at q; exact q
  | ok d2 =>
    simp only [e2, R.bind_ok] at q
    intro v2 H2 s2 rv2
    cases e3 : g d d2 with
    | bad => simp only [e3, R.bind_bad] at q
    | exc c => exact (ho.ne _ _ c e3).elim
    | ok k =>
      simp only [e3, R.bind_ok] at q
      refine (ho d d2).2 (.bool k) (by simp only [e3, R.bind_ok]) bd v v2 H2 _ (hb.same s2) (rv.t.same s2) rv2.t fun v3 H3 s3 r3 => ?_
      refine ⟨k, (RepT.of r3).blI, ?_⟩
      cases k with
      | false =>
        simp only [Bool.false_eq_true, if_false] at q ⊢
        exact q _ H3 (s2.trans s3) (.bl false)
      | true =>
        simp only [if_true] at q ⊢
        have s23 := s2.trans s3
        refine ⟨bd, r, hb.same s23, he.same s23, ?_⟩
        cases e4 : fc r with
        | bad => simp only [e4, R.bind_bad] at q
        | exc c => simp only [e4, R.bind_exc] at q; exact fun H4 s4 => q H4 (s23.trans s4)
        | ok d3 =>
          simp only [e4, R.bind_ok] at q
          intro v4 H4 s4 rv4
          cases e5 : g' d2 d3 with
          | bad => simp only [e5, R.bind_bad] at q
          | exc c => exact (ho'.ne _ _ c e5).elim
          | ok k2 =>
            simp only [e5, R.bind_ok] at q
            exact (ho' d2 d3).2 (.bool k2) (by simp only [e5, R.bind_ok]) bd v2 v4 H4 _ (hb.same (s23.trans s4)) ((rv2.t.same s3).same s4) rv4.t fun v5 H5 s5 r5 => q v5 H5 ((s23.trans s4).trans s5) r5
theorem s_chain {op op' : CmpOp} {a b c : Expr} {pos : Pos} {g g' : D → D → R Bool} {b1 b2 b3 : Bool} {fa fb fc : En → R D} (ho : Cmp2 X op g) (ho' : Cmp2 X op' g')
    (ha : PE X a (ER X W lin b1 fa)) (hb : PE X b (ER X W lin b2 fb)) (hc : PE X c (ER X W lin b3 fc)) (hm : lastMarks [op, op'] [b, c] = false) :
    PE X (.Compare a [op, op'] [b, c] pos) (ER X W lin false fun r => (fa r).bind fun x => (fb r).bind fun y => (g x y).bind fun k => if k then (fc r).bind fun z => (g' y z).bind fun k => .ok (.bool k) else .ok (.bool false)) :=
  pe_imp (pe_chain any_op any_op ha hb hc hm) fun _ _ _ h => er_chain ho ho' h
theorem t_chain {op op' : CmpOp} {a b c : Expr} {pos : Pos} {g g' : D → D → R Bool} {b1 b2 b3 : Bool} {fa fb fc : En → R D} (ho : Cmp2 X op g) (ho' : Cmp2 X op' g')
    (ha : PE X a (ER X W lin b1 fa)) (hb : PE X b (ER X W lin b2 fb)) (hc : PE X c (ER X W lin b3 fc)) (hm : lastMarks [op, op'] [b, c] = false) :
    PT X (.Compare a [op, op'] [b, c] pos) (TR X W lin fun r => (fa r).bind fun x => (fb r).bind fun y => (g x y).bind fun k => if k then (fc r).bind fun z => g' y z else .ok false) := by
  refine pt_imp (pt_chain any_op any_op ha hb hc hm) fun σ H Q h => ?_
  have hh := tr_of_er (X := X) (W := W) (lin := lin) (b := false) (f := fun r => (fa r).bind fun x => (fb r).bind fun y => (g x y).bind fun k => if k then (fc r).bind fun z => (g' y z).bind fun k => .ok (.bool k) else .ok (.bool false))
    (g := fun r => (fa r).bind fun x => (fb r).bind fun y => (g x y).bind fun k => if k then (fc r).bind fun z => g' y z else .ok false) (fun r => by
    cases fa r <;> simp
    cases fb r <;> simp
    cases g _ _ <;> simp
    split
    · cases fc r <;> simp
    · rfl) h
  exact er_chain (b1 := b1) (b2 := b2) (b3 := b3) ho ho' hh

/-! ### negation -/
theorem s_neg {a : Expr} {pos : Pos} {b : Bool} {f : En → R D} (ha : PE X a (ER X W lin b f)) : PE X (.UnaryOp .USub a pos) (ER X W lin false fun r => (f r).bind fun x => match x with | .int i => .ok (.int (-i)) | _ => .bad) := by
  refine pe_imp (pe_un un_neg ha) fun σ H Q h => ?_
  refine ER.bind (b := b) (g := fun x r => match x with | .int i => .ok (.int (-i)) | _ => .bad) h fun bd r d v H1 hb he e1 rv q => ?_
  cases d with
  | int i => exact ⟨i, rv.t.intI, q _ H1 (Same.refl _) (.int _)⟩
  | _ => exact q.elim

/-! ### calls of own defs -/
/-- what a def keeps that f tells -/
def spF (P : Program) (w : World) (mg : Str → Option Value) (n : Nat) (f : List D → R D) : Sp := fun vs H Q E => vs.length = n ∧ ∃ bd ds, BadIn bd H ∧ RepL P w H bd vs ds ∧
  match f ds with
  | .ok d => ∀ v H', Same H H' → Rep P w H' bd v d → Q v H'
  | .exc c => ∀ H', Same H H' → ∀ cv, mg c = some cv → E cv none H'
  | .bad => False
structure FnFact (P : Program) (w : World) (K : PySem.W.Frag) (mg : Str → Option Value) (base : Heap) (k : Nat) (x : Str) (n : Nat) (f : List D → R D) : Prop where
  ex : ∃ (fa : Addr) (fd : FuncData) (ps : List Str), ps.length = n ∧ mg x = some (.ref fa) ∧ PySem.W.keepIn K (.ref fa) = true ∧ Binds K fd ps [] ∧ FnOk P w K mg base (L2.CX P w) k fa fd ps (spF P w mg n f)
theorem er_call {x : Str} {p pos : Pos} {e : Expr} {es : List Expr} {k n : Nat} {f : List D → R D} {g : En → R (List D)} (F : FnFact X.prog X.w X.K X.mg X.base k x n f) (hr : Room k X.A) (hg : Gl X x)
    (tk : Takes X (wx X.mg W)) (hl : (e :: es).length = n) (hlen : ∀ r ds, g r = .ok ds → ds.length = (e :: es).length)
    (ha : PA X (e :: es) (AR X W lin g)) (hdb : (x == ("__debug__" : Str)) = false) (he : starEach (e :: es) X.env = (false, eval e X.env) :: starEach es X.env) (hpl : (backTo pos (starEach es X.env)).any (·.1) = false) :
    PE X (.Call (.Name x p) (e :: es) [] pos) (ER X W lin false fun r => (g r).bind f) := by
  obtain ⟨fa, fd, ps, hps, hm, hk, hb, ok⟩ := F.ex
  refine pe_imp (pe_callS (E := WE (wx X.mg W)) ok hr hg hm hk hb (fun σ => passAt tk σ) ha hdb he hpl) fun σ H Q h => ?_
  obtain ⟨bd, r, hbd, hen, q⟩ := h
  refine ⟨bd, r, hbd, hen, ?_⟩
  cases e1 : g r with
  | bad => simp only [e1, R.bind_bad] at q
  | exc c => simp only [e1, R.bind_exc] at q; exact q
  | ok ds =>
    simp only [e1, R.bind_ok] at q
    intro vs H1 s1 rs
    refine ⟨by rw [rs.length, hlen r ds e1, hl], bd, ds, hbd.same s1, rs, ?_⟩
    cases e2 : f ds with
    | bad => simp only [e2] at q
    | exc c => simp only [e2] at q; exact fun H2 s2 cv hcv => ⟨rfl, c, hcv, q H2 (s1.trans s2)⟩
    | ok d => simp only [e2] at q; exact fun v H2 s2 rv => q v H2 (s1.trans s2) rv
end
end BT
set_option Elab.async false
set_option linter.all false
set_option maxRecDepth 100000
set_option maxHeartbeats 4000000
/-! BTOps: the operators. -/
namespace BT
open PySem PySem.Spec PyProof.Rows L2

theorem lim_eq : LIM = sizeLine := by rw [sizeLine_eq]; rfl
theorem gd_ok {α : Type} {b : Bool} {x : R α} {a : α} (h : R.gd b x = .ok a) : b = true ∧ x = .ok a := by
  unfold R.gd at h
  split at h
  · rename_i e; exact ⟨e, h⟩
  · cases h
theorem gd_exc {α : Type} {b : Bool} {x : R α} {c : Str} (h : R.gd b x = .exc c) : x = .exc c := by
  unfold R.gd at h
  split at h
  · exact h
  · cases h
theorem ofO_noexc {α : Type} {o : Option α} {c : Str} : R.ofO o ≠ .exc c := by cases o <;> (intro z; cases z)
theorem ofO_ok {α : Type} {o : Option α} {a : α} (h : R.ofO o = .ok a) : o = some a := by
  cases o with
  | none => cases h
  | some b => injection h with h; rw [h]
theorem bind_okI {α β : Type} {x : R α} {f : α → R β} {b : β} (h : x.bind f = .ok b) : ∃ a, x = .ok a ∧ f a = .ok b := by
  cases x with
  | ok a => exact ⟨a, rfl, h⟩
  | exc c => cases h
  | bad => cases h
theorem bind_excI {α β : Type} {x : R α} {f : α → R β} {c : Str} (h : x.bind f = .exc c) : x = .exc c ∨ ∃ a, x = .ok a ∧ f a = .exc c := by
  cases x with
  | ok a => exact .inr ⟨a, rfl, h⟩
  | exc c' => left; injection h with h; rw [h]
  | bad => cases h

theorem strOk_append {x y : Str} (h1 : PyData.strOk x = true) (h2 : PyData.strOk y = true) : PyData.strOk (x ++ y) = true := by
  unfold PyData.strOk at *
  show (x.cps ++ y.cps).all (fun c => decide (c < 0x110000)) = true
  rw [Array.all_append, h1, h2]; rfl
theorem len_append {x y : Str} : (x ++ y).length = x.length + y.length := by
  show (x.cps ++ y.cps).size = x.cps.size + y.cps.size
  exact Array.size_append
theorem strOk_iff {x : Str} : PyData.strOk x = true ↔ ∀ c ∈ x.cps.toList, c < 0x110000 := by
  unfold PyData.strOk
  rw [← Array.all_toList, List.all_eq_true]
  simp
theorem okS_append {x y : Str} (h1 : OkS x) (h2 : OkS y) (hl : x.length + y.length ≤ LIM) : OkS (x ++ y) :=
  ⟨by rw [len_append, ← lim_eq]; exact hl, strOk_append h1.2 h2.2⟩
theorem okS_sub {x y : Str} (h : OkS x) (hl : y.length ≤ x.length) (hs : ∀ c ∈ y.cps.toList, c ∈ x.cps.toList) : OkS y :=
  ⟨Nat.le_trans hl h.1, strOk_iff.mpr fun c hc => strOk_iff.mp h.2 c (hs c hc)⟩
theorem okS_char {x : Str} {c : Nat} (h : OkS x) (hc : c ∈ x.cps.toList) : OkS ⟨#[c]⟩ :=
  ⟨by show 1 ≤ sizeLine; rw [sizeLine_eq]; omega, strOk_iff.mpr fun d hd => by simp at hd; subst hd; exact strOk_iff.mp h.2 _ hc⟩

section
variable {X : Cx}
theorem any_of {f : Value → Value → Sem Value} {rr : R2} {x y : V} {H : Hp} {Q : VK} (h : OpR X f rr) (q : rr x y H Q) : anyOp X f x y H Q := ⟨rr, h, q⟩
/-- a list times an int, a text times an int: a text -/
theorem op2_add : Op2 X (binaryOp .Add) (binF .add) := by
  intro dx dy
  refine ⟨fun c e => ?_, fun d e bd x y H Q hb rx ry q => ?_⟩
  · cases dx <;> cases dy <;> simp only [binF] at e <;> first | cases e | (have := gd_exc e; cases this)
  cases dx with
  | int i =>
    cases dy with
    | int j =>
      injection e with e; subst e
      exact any_of op_add ⟨i, j, rx.intI, ry.intI, q _ H (Same.refl _) (.int _)⟩
    | _ => cases e
  | str s =>
    cases dy with
    | str t =>
      obtain ⟨e1, e2⟩ := gd_ok e
      injection e2 with e2; subst e2
      obtain ⟨h1, o1⟩ := rx.strI
      obtain ⟨h2, o2⟩ := ry.strI
      have hl := of_decide_eq_true e1
      exact any_of op_add_str ⟨s, t, h1, h2, by rw [← lim_eq]; exact hl, q _ H (Same.refl _) (.str (okS_append o1 o2 hl))⟩
    | _ => cases e
  | tuple xs =>
    cases dy with
    | tuple ys =>
      obtain ⟨e1, e2⟩ := gd_ok e
      injection e2 with e2; subst e2
      have hl := of_decide_eq_true e1
      rw [lim_eq] at hl
      obtain ⟨a, vs, rfl, na, ra, la, ta⟩ := rx.tupI
      obtain ⟨b, us, rfl, nb, rb, lb, tb⟩ := ry.tupI
      have hz : vs.length + us.length ≤ sizeLine := by rw [ta.length, tb.length]; exact hl
      refine any_of op_catF ⟨a, b, vs, us, rfl, rfl, ra.sq, rb.sq, hz, fun e => ?_, fun _ e => ?_, fun _ _ p o hp ho => ?_⟩
      · subst e
        have hx : xs = [] := by have := ta.length; simpa using this.symm
        subst hx
        exact q _ H (Same.refl _) (.tup nb rb lb (by simpa using tb))
      · subst e
        have hy : ys = [] := by have := tb.length; simpa using this.symm
        subst hy
        exact q _ H (Same.refl _) (.tup na ra la (by simpa using ta))
      · exact q _ _ (same_upd hp) (new_tup ho hb hp (by simpa using hz) (ta.append tb))
    | _ => cases e
  | list xs =>
    cases dy with
    | list ys =>
      obtain ⟨e1, e2⟩ := gd_ok e
      injection e2 with e2; subst e2
      have hl := of_decide_eq_true e1
      rw [lim_eq] at hl
      obtain ⟨a, vs, rfl, ra, la, ta⟩ := rx.listI
      obtain ⟨b, us, rfl, rb, lb, tb⟩ := ry.listI
      have hz : vs.length + us.length ≤ sizeLine := by rw [ta.length, tb.length]; exact hl
      exact any_of op_cat ⟨a, b, vs, us, rfl, rfl, ra, rb, hz, fun p hp => q _ _ (same_upd hp) (new_lst hb hp (by simpa using hz) (ta.append tb))⟩
    | _ => cases e
  | _ => cases e
theorem op2_sub : Op2 X (binaryOp .Sub) (binF .sub) := by
  intro dx dy
  refine ⟨fun c e => ?_, fun d e bd x y H Q hb rx ry q => ?_⟩
  · cases dx <;> cases dy <;> simp only [binF] at e <;> cases e
  cases dx with
  | int i =>
    cases dy with
    | int j =>
      injection e with e; subst e
      exact any_of op_sub ⟨i, j, rx.intI, ry.intI, q _ H (Same.refl _) (.int _)⟩
    | _ => cases e
  | _ => cases e
theorem RepL.rep {P : Program} {w : World} {H : Hp} {bd : Addr → Prop} {vs : List V} {ds : List D} (h : RepL P w H bd vs ds) : ∀ n : Nat, RepL P w H bd (List.replicate n vs).flatten (List.replicate n ds).flatten
  | 0 => .nil
  | n + 1 => by
    rw [List.replicate_succ, List.replicate_succ, List.flatten_cons, List.flatten_cons]
    exact h.append (RepL.rep h n)
theorem len_rep {α : Type} (xs : List α) : ∀ n : Nat, (List.replicate n xs).flatten.length = xs.length * n
  | 0 => rfl
  | n + 1 => by rw [List.replicate_succ, List.flatten_cons, List.length_append, len_rep xs n, Nat.mul_succ, Nat.add_comm]
theorem op2_mod : Op2 X (binaryOp .Mod) (binF .mod) := by
  intro dx dy
  refine ⟨fun c e => ?_, fun d e bd x y H Q hb rx ry q => ?_⟩
  · cases dx <;> cases dy <;> simp only [binF] at e <;> first | cases e | (have := gd_exc e; cases this)
  cases dx with
  | int i =>
    cases dy with
    | int j =>
      obtain ⟨e1, e2⟩ := gd_ok e
      injection e2 with e2; subst e2
      exact any_of op_mod ⟨i, j, rx.intI, ry.intI, of_decide_eq_true e1, q _ H (Same.refl _) (.int _)⟩
    | _ => cases e
  | _ => cases e
theorem op2_fdiv : Op2 X (binaryOp .FloorDiv) (binF .fdiv) := by
  intro dx dy
  refine ⟨fun c e => ?_, fun d e bd x y H Q hb rx ry q => ?_⟩
  · cases dx <;> cases dy <;> simp only [binF] at e <;> first | cases e | (have := gd_exc e; cases this)
  cases dx with
  | int i =>
    cases dy with
    | int j =>
      obtain ⟨e1, e2⟩ := gd_ok e
      injection e2 with e2; subst e2
      have e3 : 0 < j ∧ j < 1073741824 := of_decide_eq_true e1
      exact any_of op_fdiv ⟨i, j, rx.intI, ry.intI, e3, q _ H (Same.refl _) (.int _)⟩
    | _ => cases e
  | _ => cases e

/-! ### comparisons -/
theorem cmp_noexc {op : Cop} {x y : D} {c : Str} : cmpF op x y ≠ .exc c := by
  intro e
  have hin : ∀ x y c, inF x y ≠ .exc c := fun x y c z => by
    unfold inF at z
    split at z
    · have := gd_exc z; cases this
    · have := gd_exc z; cases this
    · have := gd_exc z; cases this
    · split at z <;> cases z
    · cases z
  unfold cmpF at e
  split at e <;> first | cases e | (have := gd_exc e; cases this) | exact hin _ _ _ e | skip
  rcases bind_excI e with h | ⟨a, h1, h2⟩
  · exact hin _ _ _ h
  · cases h2
/-- from one rule for each outcome -/
theorem cmp2_of {op : CmpOp} {g : D → D → R Bool} (hn : ∀ x y c, g x y ≠ .exc c) (h : ∀ dx dy k, g dx dy = .ok k → ∀ bd x y H Q, BadIn bd H → RepT X.prog X.w H bd x dx → RepT X.prog X.w H bd y dy → Q (.bl k) H → anyOp X (compareOp op) x y H Q) : Cmp2 X op g := by
  intro dx dy
  refine ⟨fun c e => ?_, fun d e bd x y H Q hb rx ry q => ?_⟩
  · rcases bind_excI e with z | ⟨a, z1, z2⟩
    · exact hn _ _ _ z
    · cases z2
  · obtain ⟨k, e1, e2⟩ := bind_okI e
    injection e2 with e2; subst e2
    exact h dx dy k e1 bd x y H Q hb rx ry (q _ H (Same.refl _) (.bl _))
theorem cmp_eq (hu : X.A.units + 64 < cLine) : Cmp2 X .Eq (cmpF .eq) := by
  refine cmp2_of (fun _ _ _ => cmp_noexc) fun dx dy k e bd x y H Q hb rx ry q => ?_
  obtain ⟨e1, e2⟩ := gd_ok (show R.gd _ _ = _ from e)
  injection e2 with e2; subst e2
  rw [Bool.and_eq_true] at e1
  obtain ⟨p1, l1, d1⟩ := rx.dp (K := X.K) e1.1
  obtain ⟨p2, l2, d2⟩ := ry.dp (K := X.K) e1.2
  exact any_of (op_eqD hu) ⟨dx, dy, p1, p2, shaped_of l1 d1 (by omega), shaped_of l2 d2 (by omega), q⟩
theorem cmp_ne (hu : X.A.units + 64 < cLine) : Cmp2 X .NotEq (cmpF .ne) := by
  refine cmp2_of (fun _ _ _ => cmp_noexc) fun dx dy k e bd x y H Q hb rx ry q => ?_
  obtain ⟨e1, e2⟩ := gd_ok (show R.gd _ _ = _ from e)
  injection e2 with e2; subst e2
  rw [Bool.and_eq_true] at e1
  obtain ⟨p1, l1, d1⟩ := rx.dp (K := X.K) e1.1
  obtain ⟨p2, l2, d2⟩ := ry.dp (K := X.K) e1.2
  exact any_of (op_neD hu) ⟨dx, dy, p1, p2, shaped_of l1 d1 (by omega), shaped_of l2 d2 (by omega), q⟩
theorem cmp_lt : Cmp2 X .Lt (cmpF .lt) := by
  refine cmp2_of (fun _ _ _ => cmp_noexc) fun dx dy k e bd x y H Q hb rx ry q => ?_
  cases dx <;> cases dy <;> first
    | cases e; done
    | (injection e with e; subst e; exact any_of op_lt ⟨_, _, rx.intI, ry.intI, q⟩)
    | (injection e with e; subst e; exact any_of op_lt_str ⟨_, _, rx.strI.1, ry.strI.1, q⟩)
theorem cmp_le : Cmp2 X .LtE (cmpF .le) := by
  refine cmp2_of (fun _ _ _ => cmp_noexc) fun dx dy k e bd x y H Q hb rx ry q => ?_
  cases dx <;> cases dy <;> first
    | cases e; done
    | (injection e with e; subst e; exact any_of op_le ⟨_, _, rx.intI, ry.intI, q⟩)
    | (injection e with e; subst e; refine any_of op_le_str ⟨_, _, rx.strI.1, ry.strI.1, ?_⟩; rw [← decide_not]; simpa [List.not_lt] using q)
theorem cmp_gt : Cmp2 X .Gt (cmpF .gt) := by
  refine cmp2_of (fun _ _ _ => cmp_noexc) fun dx dy k e bd x y H Q hb rx ry q => ?_
  cases dx <;> cases dy <;> first
    | cases e; done
    | (injection e with e; subst e; exact any_of op_gt ⟨_, _, rx.intI, ry.intI, q⟩)
theorem cmp_ge : Cmp2 X .GtE (cmpF .ge) := by
  refine cmp2_of (fun _ _ _ => cmp_noexc) fun dx dy k e bd x y H Q hb rx ry q => ?_
  cases dx <;> cases dy <;> first
    | cases e; done
    | (injection e with e; subst e; exact any_of op_ge ⟨_, _, rx.intI, ry.intI, q⟩)
/-- x is True, x is False, whatever x is -/
theorem op_isB : OpR X (compareOp .Is) (fun x y H Q => ∃ b, y = .bl b ∧ Q (.bl (decide (x = .bl b))) H) := by
  intro pins s σ H x y v u Q I rx ry h
  obtain ⟨b, rfl, q⟩ := h
  cases (show u = Value.bool b from ry)
  by_cases e : x = .bl b
  · subst e
    cases (show v = Value.bool b from rx)
    exact wpAny_is_self rfl ⟨.bl true, H, I, rfl, by simpa using q⟩
  · have hv : v ≠ .bool b := fun z => by
      subst z
      exact e (rx.inj (y := .bl b) rfl)
    have hp : plainIs v (.bool b) = true := by
      cases x with
      | non => cases rx; rfl
      | bl c => cases rx; rfl
      | int i => obtain ⟨t, rfl⟩ := rx; rfl
      | str i => obtain ⟨t, rfl⟩ := rx; rfl
      | byt i => obtain ⟨t, rfl⟩ := rx; rfl
      | flt i => obtain ⟨t, rfl⟩ := rx; rfl
      | ref a => cases rx; rfl
      | ty n => cases rx; rfl
    exact wpAny_is_other hp hv ⟨.bl false, H, I, rfl, by simpa [e] using q⟩
theorem op_notB : OpR X (compareOp .IsNot) (fun x y H Q => ∃ b, y = .bl b ∧ Q (.bl (!decide (x = .bl b))) H) := by
  intro pins s σ H x y v u Q I rx ry h
  obtain ⟨b, rfl, q⟩ := h
  cases (show u = Value.bool b from ry)
  by_cases e : x = .bl b
  · subst e
    cases (show v = Value.bool b from rx)
    exact wpAny_isNot_self rfl ⟨.bl false, H, I, rfl, by simpa using q⟩
  · have hv : v ≠ .bool b := fun z => by
      subst z
      exact e (rx.inj (y := .bl b) rfl)
    have hp : plainIs v (.bool b) = true := by
      cases x with
      | non => cases rx; rfl
      | bl c => cases rx; rfl
      | int i => obtain ⟨t, rfl⟩ := rx; rfl
      | str i => obtain ⟨t, rfl⟩ := rx; rfl
      | byt i => obtain ⟨t, rfl⟩ := rx; rfl
      | flt i => obtain ⟨t, rfl⟩ := rx; rfl
      | ref a => cases rx; rfl
      | ty n => cases rx; rfl
    exact wpAny_isNot_other hp hv ⟨.bl true, H, I, rfl, by simpa [e] using q⟩
theorem rep_non {P : Program} {w : World} {H : Hp} {bd : Addr → Prop} {x : V} {d : D} (h : RepT P w H bd x d) : decide (x = V.non) = isNon d := by
  cases d with
  | none => rw [h.nonI]; rfl
  | bool b => rw [h.blI]; rfl
  | int b => rw [h.intI]; rfl
  | str b => rw [h.strI.1]; rfl
  | list b => obtain ⟨a, _, rfl, _⟩ := h.listI; rfl
  | tuple b => obtain ⟨a, _, rfl, _⟩ := h.tupI; rfl
  | dict b => obtain ⟨a, rfl, _⟩ := h.dictI; rfl
theorem rep_bl {P : Program} {w : World} {H : Hp} {bd : Addr → Prop} {x : V} {d : D} (h : RepT P w H bd x d) (b : Bool) : decide (x = V.bl b) = isBl b d := by
  cases d with
  | none => rw [h.nonI]; rfl
  | bool c => rw [h.blI]; cases c <;> cases b <;> rfl
  | int b => rw [h.intI]; rfl
  | str b => rw [h.strI.1]; rfl
  | list b => obtain ⟨a, _, rfl, _⟩ := h.listI; rfl
  | tuple b => obtain ⟨a, _, rfl, _⟩ := h.tupI; rfl
  | dict b => obtain ⟨a, rfl, _⟩ := h.dictI; rfl
theorem cmp_is : Cmp2 X .Is (cmpF .is_) := by
  refine cmp2_of (fun _ _ _ => cmp_noexc) fun dx dy k e bd x y H Q hb rx ry q => ?_
  cases dy with
  | none =>
    injection e with e; subst e
    refine any_of op_isN ⟨ry.nonI, ?_⟩
    rw [rep_non rx]; exact q
  | bool b =>
    injection e with e; subst e
    refine any_of op_isB ⟨b, ry.blI, ?_⟩
    rw [rep_bl rx]; exact q
  | _ => cases e
theorem cmp_isnot : Cmp2 X .IsNot (cmpF .isnot) := by
  refine cmp2_of (fun _ _ _ => cmp_noexc) fun dx dy k e bd x y H Q hb rx ry q => ?_
  cases dy with
  | none =>
    injection e with e; subst e
    refine any_of op_notN ⟨ry.nonI, ?_⟩
    rw [rep_non rx]; exact q
  | bool b =>
    injection e with e; subst e
    refine any_of op_notB ⟨b, ry.blI, ?_⟩
    rw [rep_bl rx]; exact q
  | _ => cases e
end
end BT
set_option Elab.async false
set_option linter.all false
set_option maxRecDepth 100000
set_option maxHeartbeats 4000000
/-! BTDict: dicts. -/
namespace BT
open PySem PySem.Spec PyProof.Rows L2

mutual
theorem eqv_key : ∀ (d e : D) (k l : NestedKey), keyOf d = some k → keyOf e = some l → PyData.eqv d e = NestedKey.beq k l
  | .none, e, k, l, h1, h2 => by
    injection h1 with h1; subst h1
    cases e <;> simp only [keyOf, Option.some.injEq, Option.map_eq_some_iff] at h2 <;> first
      | (subst h2; simp [PyData.eqv, NestedKey.beq]; done)
      | (obtain ⟨ks, _, rfl⟩ := h2; simp [PyData.eqv, NestedKey.beq]; done)
      | cases h2
  | .bool b, e, k, l, h1, h2 => by
    injection h1 with h1; subst h1
    cases e <;> simp only [keyOf, Option.some.injEq, Option.map_eq_some_iff] at h2 <;> first
      | (subst h2; simp [PyData.eqv, NestedKey.beq]; done)
      | (subst h2; rename_i c; cases b <;> cases c <;> simp [PyData.eqv, NestedKey.beq]; done)
      | (subst h2; simp only [PyData.eqv, NestedKey.beq]; exact Bool.beq_eq_decide_eq _ _)
      | (obtain ⟨ks, _, rfl⟩ := h2; simp [PyData.eqv, NestedKey.beq]; done)
      | cases h2
  | .int i, e, k, l, h1, h2 => by
    injection h1 with h1; subst h1
    cases e <;> simp only [keyOf, Option.some.injEq, Option.map_eq_some_iff] at h2 <;> first
      | (subst h2; simp [PyData.eqv, NestedKey.beq]; done)
      | (subst h2; simp [PyData.eqv, NestedKey.beq, Bool.beq_eq_decide_eq]; done)
      | (obtain ⟨ks, _, rfl⟩ := h2; simp [PyData.eqv, NestedKey.beq]; done)
      | cases h2
  | .str x, e, k, l, h1, h2 => by
    injection h1 with h1; subst h1
    cases e <;> simp only [keyOf, Option.some.injEq, Option.map_eq_some_iff] at h2 <;> first
      | (subst h2; simp [PyData.eqv, NestedKey.beq]; done)
      | (subst h2; simp [PyData.eqv, NestedKey.beq, Bool.beq_eq_decide_eq]; done)
      | (obtain ⟨ks, _, rfl⟩ := h2; simp [PyData.eqv, NestedKey.beq]; done)
      | cases h2
  | .tuple xs, e, k, l, h1, h2 => by
    simp only [keyOf, Option.map_eq_some_iff] at h1
    obtain ⟨ks, h1, rfl⟩ := h1
    cases e <;> simp only [keyOf, Option.some.injEq, Option.map_eq_some_iff] at h2 <;> first
      | (subst h2; simp [PyData.eqv, NestedKey.beq]; done)
      | cases h2; done
      | skip
    obtain ⟨ls, h2, rfl⟩ := h2
    simp only [PyData.eqv, NestedKey.beq]
    exact eqvAll_key xs _ ks ls h1 h2
  | .list _, _, _, _, h1, _ => by simp [keyOf] at h1
  | .dict _, _, _, _, h1, _ => by simp [keyOf] at h1
theorem eqvAll_key : ∀ (ds es : List D) (ks ls : List NestedKey), keysL ds = some ks → keysL es = some ls → PyData.eqvAll ds es = NestedKey.beqAll ks ls
  | [], [], ks, ls, h1, h2 => by injection h1 with h1; injection h2 with h2; subst h1; subst h2; simp [PyData.eqvAll, NestedKey.beqAll]
  | [], e :: es, ks, ls, h1, h2 => by
    injection h1 with h1; subst h1
    simp only [keysL, Option.bind_eq_some_iff, Option.map_eq_some_iff] at h2
    obtain ⟨l, _, ls', _, rfl⟩ := h2
    simp [PyData.eqvAll, NestedKey.beqAll]
  | d :: ds, [], ks, ls, h1, h2 => by
    injection h2 with h2; subst h2
    simp only [keysL, Option.bind_eq_some_iff, Option.map_eq_some_iff] at h1
    obtain ⟨l, _, ls', _, rfl⟩ := h1
    simp [PyData.eqvAll, NestedKey.beqAll]
  | d :: ds, e :: es, ks, ls, h1, h2 => by
    simp only [keysL, Option.bind_eq_some_iff, Option.map_eq_some_iff] at h1 h2
    obtain ⟨k, a1, ks', b1, rfl⟩ := h1
    obtain ⟨l, a2, ls', b2, rfl⟩ := h2
    simp only [PyData.eqvAll, NestedKey.beqAll]
    rw [eqv_key d e k l a1 a2, eqvAll_key ds es ks' ls' b1 b2]
end
theorem eqv_keyD {d e : D} {k l : NestedKey} (h1 : keyOf d = some k) (h2 : keyOf e = some l) : PyData.eqv d e = decide (k = l) := by rw [eqv_key d e k l h1 h2, NestedKey.decide_eq]
mutual
theorem keyOf_shal : ∀ (d : D) (n : Nat) (v : V) (P : Program) (w : World) (H : Hp) (bd : Addr → Prop), shal n d = true → nolist d = true → ∃ k, keyOf d = some k ∧ k.depth ≤ n
  | .none, n, _, _, _, _, _, _, _ => ⟨_, rfl, Nat.zero_le _⟩
  | .bool _, n, _, _, _, _, _, _, _ => ⟨_, rfl, Nat.zero_le _⟩
  | .int _, n, _, _, _, _, _, _, _ => ⟨_, rfl, Nat.zero_le _⟩
  | .str _, n, _, _, _, _, _, _, _ => ⟨_, rfl, Nat.zero_le _⟩
  | .list _, _, _, _, _, _, _, _, h => by simp [nolist] at h
  | .dict _, _, _, _, _, _, _, _, h => by simp [nolist] at h
  | .tuple ds, 0, _, _, _, _, _, h, _ => by simp [shal] at h
  | .tuple ds, n + 1, v, P, w, H, bd, h, g => by
    obtain ⟨ks, e, l⟩ := keysL_shal ds n v P w H bd (by simpa [shal] using h) (by simpa [nolist] using g)
    exact ⟨.tup ks, by simp [keyOf, e], by simp [NestedKey.depth]; exact l⟩
theorem keysL_shal : ∀ (ds : List D) (n : Nat) (v : V) (P : Program) (w : World) (H : Hp) (bd : Addr → Prop), shalL n ds = true → nolistL ds = true → ∃ ks, keysL ds = some ks ∧ NestedKey.depthAll ks ≤ n
  | [], _, _, _, _, _, _, _, _ => ⟨[], rfl, Nat.zero_le _⟩
  | d :: ds, n, v, P, w, H, bd, h, g => by
    have h' : shal n d = true ∧ shalL n ds = true := by simpa [shalL] using h
    have g' : nolist d = true ∧ nolistL ds = true := by simpa [nolistL] using g
    obtain ⟨k, e1, l1⟩ := keyOf_shal d n v P w H bd h'.1 g'.1
    obtain ⟨ks, e2, l2⟩ := keysL_shal ds n v P w H bd h'.2 g'.2
    exact ⟨k :: ks, by simp [keysL, e1, e2], by simp [NestedKey.depthAll]; omega⟩
end
mutual
theorem nolist_of : ∀ (d : D) (k : NestedKey), keyOf d = some k → nolist d = true
  | .none, _, _ => by simp [nolist]
  | .bool _, _, _ => by simp [nolist]
  | .int _, _, _ => by simp [nolist]
  | .str _, _, _ => by simp [nolist]
  | .list _, _, h => by simp [keyOf] at h
  | .dict _, _, h => by simp [keyOf] at h
  | .tuple ds, k, h => by
    simp only [keyOf, Option.map_eq_some_iff] at h
    obtain ⟨ks, h, _⟩ := h
    simp only [nolist]
    exact nolistL_of ds ks h
theorem nolistL_of : ∀ (ds : List D) (ks : List NestedKey), keysL ds = some ks → nolistL ds = true
  | [], _, _ => by simp [nolistL]
  | d :: ds, ks, h => by
    simp only [keysL, Option.bind_eq_some_iff, Option.map_eq_some_iff] at h
    obtain ⟨k, h1, ks', h2, _⟩ := h
    simp only [nolistL, Bool.and_eq_true]
    exact ⟨nolist_of d k h1, nolistL_of ds ks' h2⟩
end
section
variable {X : Cx} {pins : List (Addr × Obj)} {σ : L2.St} {H : Hp} {s : Shared} {bd : Addr → Prop}
mutual
theorem Rep.nest (I : Inv X pins σ H s) : ∀ (d : D) (v : V) (u : Value) (k : NestedKey), Rep X.prog X.w H bd v d → RelV v u → keyOf d = some k → NestedIs s.heap k u
  | .none, _, _, _, h, r, e => by cases h; cases r; injection e with e; subst e; exact .none
  | .bool b, _, _, _, h, r, e => by cases h; cases r; injection e with e; subst e; exact .bool rfl
  | .int i, _, _, _, h, r, e => by cases h; obtain ⟨t, rfl⟩ := r; injection e with e; subst e; exact .int _ _
  | .str i, _, _, _, h, r, e => by
    cases h with
    | str o => obtain ⟨t, rfl⟩ := r; injection e with e; subst e; exact .text _ _
  | .tuple ds, _, _, _, h, r, e => by
    cases h with
    | tup n ra l t =>
      cases r
      simp only [keyOf, Option.map_eq_some_iff] at e
      obtain ⟨ks, e, rfl⟩ := e
      obtain ⟨its, rv, ⟨o, ho, hc, n, hd⟩, _⟩ := I.tuple ra.sq
      exact .tup ho hc hd (Rep.nestAll I ds _ its ks t rv e)
  | .list _, _, _, _, _, _, e => by simp [keyOf] at e
  | .dict _, _, _, _, _, _, e => by simp [keyOf] at e
theorem Rep.nestAll (I : Inv X pins σ H s) : ∀ (ds : List D) (vs : List V) (us : List Value) (ks : List NestedKey), RepL X.prog X.w H bd vs ds → Vals vs us → keysL ds = some ks → NestedAll s.heap ks us
  | [], _, _, _, h, r, e => by cases h; cases r; injection e with e; subst e; exact .nil
  | d :: ds, _, _, _, h, r, e => by
    cases h with
    | cons a t =>
      cases r with
      | cons ra rt =>
        simp only [keysL, Option.bind_eq_some_iff, Option.map_eq_some_iff] at e
        obtain ⟨k, e1, ks, e2, rfl⟩ := e
        exact .cons (Rep.nest I d _ _ k a ra e1) (Rep.nestAll I ds _ _ ks t rt e2)
end
end

/-! ### looking up -/
section
variable {P : Program} {w : World} {H : Hp} {bd : Addr → Prop}
theorem RepK.find {x : Str} : ∀ {kvs : List (Key × V)} {ds : List (D × D)}, RepK P w H bd kvs ds →
    (∀ d, dfind ds (.str x) = some d → ∃ v, valV kvs (.inr x) = some v ∧ Rep P w H bd v d) ∧ (dfind ds (.str x) = none → valV kvs (.inr x) = none)
  | _, [], h => by cases h; exact ⟨fun d e => by simp [dfind] at e, fun _ => rfl⟩
  | _, (kd, d0) :: ds, h => by
    cases h with
    | cons o a t =>
      rename_i y v r
      obtain ⟨h1, h2⟩ := RepK.find (x := x) t
      by_cases e : y = x
      · subst e
        have ee : PyData.eqv (.str y) (.str y) = true := by simp [PyData.eqv]
        refine ⟨fun d e => ?_, fun e => ?_⟩
        · simp [dfind, List.find?_cons, ee] at e
          subst e
          exact ⟨v, valV_pos rfl, a⟩
        · simp [dfind, List.find?_cons, ee] at e
      · have ee : PyData.eqv (.str y) (.str x) = false := by simp [PyData.eqv, e]
        have ef : dfind ((.str y, d0) :: ds) (.str x) = dfind ds (.str x) := by simp [dfind, List.find?_cons, ee]
        have eg : valV ((.inr y, v) :: r) (.inr x) = valV r (.inr x) := valV_neg (fun z => e (Sum.inr.inj z))
        rw [ef, eg]
        exact ⟨h1, h2⟩
theorem RepN.find {kd : D} {k : NestedKey} (hk : keyOf kd = some k) : ∀ {xs : List (NestedKey × Addr × Value)} {ds : List (D × D)}, RepN P w H bd xs ds →
    (∀ d, dfind ds kd = some d → ∃ a u v, atKey xs k = some (a, u) ∧ RelV v u ∧ Rep P w H bd v d) ∧ (dfind ds kd = none → atKey xs k = none)
  | _, [], h => by cases h; exact ⟨fun d e => by simp [dfind] at e, fun _ => rfl⟩
  | _, (kd0, d0) :: ds, h => by
    cases h with
    | cons e s i a u b t =>
      rename_i k0 a0 u0 v0 r
      obtain ⟨h1, h2⟩ := RepN.find hk t
      have ee := eqv_keyD e hk
      by_cases z : k0 = k
      · rw [decide_eq_true z] at ee
        refine ⟨fun d e => ?_, fun e => ?_⟩
        · simp [dfind, List.find?_cons, ee] at e
          subst e
          exact ⟨a0, u0, v0, by simp [atKey, List.find?_cons, z], u, b⟩
        · simp [dfind, List.find?_cons, ee] at e
      · rw [decide_eq_false z] at ee
        have ef : dfind ((kd0, d0) :: ds) kd = dfind ds kd := by simp [dfind, List.find?_cons, ee]
        have eg : atKey ((k0, a0, u0) :: r) k = atKey r k := by simp [atKey, List.find?_cons, z]
        rw [ef, eg]
        exact ⟨h1, h2⟩
theorem RepK.length : ∀ {kvs : List (Key × V)} {ds : List (D × D)}, RepK P w H bd kvs ds → kvs.length = ds.length
  | _, [], h => by cases h; rfl
  | _, _ :: _, h => by cases h with | cons o a t => simp [RepK.length t]
theorem RepN.length : ∀ {kvs : List (NestedKey × Addr × Value)} {ds : List (D × D)}, RepN P w H bd kvs ds → kvs.length = ds.length
  | _, [], h => by cases h; rfl
  | _, _ :: _, h => by cases h with | cons e s i a u b t => simp [RepN.length t]
theorem RepN.key : ∀ {kvs : List (NestedKey × Addr × Value)} {ds : List (D × D)}, RepN P w H bd kvs ds → ∀ x ∈ kvs, ∃ kd, keyOf kd = some x.1 ∧ shal 8 kd = true ∧ isTupD kd = true ∧ Rep P w H bd (.ref x.2.1) kd
  | _, [], h, _, hx => by cases h; cases hx
  | _, _ :: _, h, x, hx => by
    cases h with
    | cons e s i a u b t =>
      rcases List.mem_cons.mp hx with rfl | hx
      · exact ⟨_, e, s, i, a⟩
      · exact RepN.key t x hx
theorem RepK.isStr : ∀ {kvs : List (Key × V)} {ds : List (D × D)}, RepK P w H bd kvs ds → (ds.all fun kv => isStrD kv.1) = true
  | _, [], h => rfl
  | _, _ :: _, h => by cases h with | cons o a t => rw [List.all_cons, RepK.isStr t]; rfl
theorem RepN.isTup : ∀ {kvs : List (NestedKey × Addr × Value)} {ds : List (D × D)}, RepN P w H bd kvs ds → (ds.all fun kv => isTupD kv.1) = true
  | _, [], h => rfl
  | _, _ :: _, h => by cases h with | cons e s i a u b t => rw [List.all_cons, RepN.isTup t, i]; rfl
end
mutual
theorem shal_le : ∀ (d : D) (n m : Nat), shal n d = true → n ≤ m → shal m d = true
  | .none, _, _, _, _ => by simp [shal]
  | .bool _, _, _, _, _ => by simp [shal]
  | .int _, _, _, _, _ => by simp [shal]
  | .str _, _, _, _, _ => by simp [shal]
  | .dict _, _, _, h, _ => by simp [shal] at h
  | .list _, 0, _, h, _ => by simp [shal] at h
  | .tuple _, 0, _, h, _ => by simp [shal] at h
  | .list ds, n + 1, 0, h, l => by omega
  | .tuple ds, n + 1, 0, h, l => by omega
  | .list ds, n + 1, m + 1, h, l => by
    simp only [shal] at h ⊢
    exact shalL_le ds n m h (by omega)
  | .tuple ds, n + 1, m + 1, h, l => by
    simp only [shal] at h ⊢
    exact shalL_le ds n m h (by omega)
theorem shalL_le : ∀ (ds : List D) (n m : Nat), shalL n ds = true → n ≤ m → shalL m ds = true
  | [], _, _, _, _ => by simp [shalL]
  | d :: ds, n, m, h, l => by
    simp only [shalL, Bool.and_eq_true] at h ⊢
    exact ⟨shal_le d n m h.1 l, shalL_le ds n m h.2 l⟩
end
section
variable {X : Cx} {pins : List (Addr × Obj)} {σ : L2.St} {H : Hp} {s : Shared} {bd : Addr → Prop}
/-- a dict with tuple keys stands at a -/
structure DN (X : Cx) (H : Hp) (bd : Addr → Prop) (a : Addr) (xs : List (NestedKey × Addr × Value)) (ds : List (D × D)) : Prop where
  at_ : ∃ ep, H a = some (BT.dN X.prog X.w a ep xs)
  len : xs.length ≤ sizeLine
  sys : (a == sysModules) = false
  nd : (xs.map (·.1)).Nodup
  rep : RepN X.prog X.w H bd xs ds
/-- a key of such -/
structure KN (X : Cx) (H : Hp) (bd : Addr → Prop) (b : Addr) (kd : D) (k : NestedKey) : Prop where
  key : keyOf kd = some k
  dep : k.depth ≤ 8
  rep : Rep X.prog X.w H bd (.ref b) kd
theorem KN.is {b : Addr} {kd : D} {k : NestedKey} (h : KN X H bd b kd k) (I : Inv X pins σ H s) : (nestedKind X.prog X.w).is s.heap k b := ⟨Rep.nest I kd _ _ k h.rep rfl h.key, h.dep⟩
theorem DN.of {a : Addr} {xs : List (NestedKey × Addr × Value)} {ds : List (D × D)} (h : DN X H bd a xs ds) (I : Inv X pins σ H s) : s.heap.DictOfH (nestedKind X.prog X.w) a xs := by
  obtain ⟨ep, hat⟩ := h.at_
  obtain ⟨⟨o, es, h1, h2, h3, h4⟩, _, _⟩ := (show ObjOk X.prog X.w H s.heap a (BT.dN X.prog X.w a ep xs) from I.hok a _ hat)
  refine ⟨o, es, ep, h1, h2, h3, h4, fun x hx => ?_, h.nd⟩
  obtain ⟨kd, e, sh, it, r⟩ := h.rep.key x hx
  refine ⟨Rep.nest I kd _ _ _ r rfl e, ?_⟩
  have : ∀ (d : D) (k : NestedKey), keyOf d = some k → shal 8 d = true → k.depth ≤ 8 := fun d k e sh => by
    have hn : nolist d = true := nolist_of d k e
    obtain ⟨k', e', l⟩ := keyOf_shal d 8 .non X.prog X.w H bd sh hn
    rw [e] at e'
    cases e'
    exact l
  exact this kd x.1 e sh
end

/-! ### the rules -/
section
variable {X : Cx} {pins : List (Addr × Obj)} {σ : L2.St} {H : Hp} {s : Shared} {bd : Addr → Prop}
/-- an empty dict of the one kind is one of the other -/
theorem empty_dN {a : Addr} (I : Inv X pins σ H s) (h : H a = some (.dK [])) : s.heap.DictOfH (nestedKind X.prog X.w) a [] ∧ (a == sysModules) = false := by
  obtain ⟨_, hd, vs, r, o, es, ep, h1, h2, h3, h4, h5, h6⟩ := (show ObjOk X.prog X.w H s.heap a (.dK []) from I.hok a _ h)
  cases r
  refine ⟨⟨o, es, ep, h1, h2, h3, ?_, fun _ z => (nomatch z), List.nodup_nil⟩, hd⟩
  generalize es.toList = l at h5
  cases h5
  rfl
theorem empty_of {w : World} {P : Program} {h : Heap} {a : Addr} (x : h.DictOfH (nestedKind P w) a []) : h.DictOf (mixKind P w) a [] := by
  obtain ⟨o, es, ep, h1, h2, h3, h4, _, _⟩ := x
  have e : es = #[] := by
    have : es.toList = [] := by simpa using h4
    exact Array.toList_inj.mp (by simpa using this)
  subst e
  exact ⟨o, #[], ep, h1, h2, h3, fun _ hx => by simp at hx, .nil, List.nodup_nil⟩
/-- the look at a dict with a key that is a tuple -/
theorem viewN {y : V} {a : Addr} {ds : List (D × D)} (I : Inv X pins σ H s) (h : RepT X.prog X.w H bd (.ref a) (.dict ds)) (ht : (ds.all fun kv => isTupD kv.1) = true) :
    (a == sysModules) = false ∧ ∃ xs, s.heap.DictOfH (nestedKind X.prog X.w) a xs ∧ RepN X.prog X.w H bd xs ds ∧ xs.length ≤ sizeLine := by
  obtain ⟨a', e, h⟩ := h.dictI
  cases e
  rcases h with ⟨kvs, h1, h2, h3⟩ | ⟨ep, xs, h1, h2, h3, h4, h5, h6⟩
  · cases h3 with
    | nil =>
      obtain ⟨z1, z2⟩ := empty_dN I h1
      exact ⟨z2, [], z1, .nil, Nat.zero_le _⟩
    | cons o r t => simp [isTupD] at ht
  · exact ⟨h3, xs, DN.of ⟨⟨ep, h1⟩, h2, h3, h5, h6⟩ I, h6, h2⟩
theorem viewK {a : Addr} {ds : List (D × D)} (h : RepT X.prog X.w H bd (.ref a) (.dict ds)) (ht : (ds.all fun kv => isStrD kv.1) = true) :
    ∃ kvs, H a = some (.dK kvs) ∧ RepK X.prog X.w H bd kvs ds ∧ kvs.length ≤ sizeLine := by
  obtain ⟨a', e, h⟩ := h.dictI
  cases e
  rcases h with ⟨kvs, h1, h2, h3⟩ | ⟨ep, xs, h1, h2, h3, h4, h5, h6⟩
  · exact ⟨kvs, h1, h3, h2⟩
  · cases h6 with
    | nil => exact (h4 rfl).elim
    | cons e s i a u b t =>
      rename_i kd d r ds
      cases kd <;> simp [isTupD] at i
      simp [isStrD] at ht
theorem fitsN {ds : List (D × D)} {xs : List D} (h : keyFits ds (.tuple xs) = true) : shal 8 (.tuple xs) = true ∧ nolist (.tuple xs) = true ∧ (ds.all fun kv => isTupD kv.1) = true := by
  unfold keyFits at h
  simp only [Bool.and_eq_true] at h
  exact ⟨h.1.1, h.1.2, h.2⟩
theorem fitsKN {ds : List (D × D)} {xs : List D} {x : V} (h : keyFits ds (.tuple xs) = true) (r : RepT X.prog X.w H bd x (.tuple xs)) : ∃ b k, x = .ref b ∧ KN X H bd b (.tuple xs) k := by
  obtain ⟨h1, h2, h3⟩ := fitsN h
  obtain ⟨k, e, l⟩ := keyOf_shal (.tuple xs) 8 x X.prog X.w H bd h1 h2
  obtain ⟨a, vs, rfl, n, ra, la, ta⟩ := r.tupI
  exact ⟨a, k, rfl, e, l, .tup n ra la ta⟩
def InR (X : Cx) (n : Bool) : R2 := fun x y H Q => ∃ bd ds kd, BadIn bd H ∧ RepT X.prog X.w H bd x kd ∧ RepT X.prog X.w H bd y (.dict ds) ∧ keyFits ds kd = true ∧ Q (.bl (if n then !(dfind ds kd).isSome else (dfind ds kd).isSome)) H
theorem room8 {A : Around} (hu : A.units + 64 < cLine) {P : Program} {w : World} : (nestedKind P w).room A.in1 := by
  show A.units + 1 + 8 < cLine
  omega
theorem op_inDict (hu : X.A.units + 64 < cLine) : OpR X (compareOp .In) (InR X false) := by
  intro pins s σ H x y v u Q I rx ry h
  obtain ⟨bd, ds, kd, hb, r1, r2, hf, q⟩ := h
  obtain ⟨a, rfl, _⟩ := r2.dictI
  cases (show u = Value.ref a from ry)
  cases kd with
  | str z =>
    obtain ⟨rfl, o⟩ := r1.strI
    obtain ⟨kvs, h1, h2, h3⟩ := viewK r2 hf
    refine d_in (by omega) I (DGet.k (k := .inr z) h1) rx fun s' I' => ⟨.bl _, H, I', rfl, ?_⟩
    obtain ⟨f1, f2⟩ := h2.find (x := z)
    cases e : dfind ds (.str z) with
    | none => rw [f2 e]; rw [e] at q; exact q
    | some d => obtain ⟨v', e', _⟩ := f1 d e; rw [e']; rw [e] at q; exact q
  | tuple xs =>
    obtain ⟨b, k, rfl, kn⟩ := fitsKN hf r1
    cases (show v = Value.ref b from rx)
    obtain ⟨hs, ys, hd, hr, hl⟩ := viewN (y := .non) I r2 (fitsN hf).2.2
    refine wpAny_in_heap (room8 hu) (kn.is I) hs hd ⟨.bl _, H, I.tok _, rfl, ?_⟩
    obtain ⟨f1, f2⟩ := hr.find kn.key
    cases e : dfind ds (.tuple xs) with
    | none => rw [f2 e]; rw [e] at q; exact q
    | some d => obtain ⟨a', u', v', e', _⟩ := f1 d e; rw [e']; rw [e] at q; exact q
  | _ => cases hf
theorem op_notInDict (hu : X.A.units + 64 < cLine) : OpR X (compareOp .NotIn) (InR X true) := by
  intro pins s σ H x y v u Q I rx ry h
  obtain ⟨bd, ds, kd, hb, r1, r2, hf, q⟩ := h
  obtain ⟨a, rfl, _⟩ := r2.dictI
  cases (show u = Value.ref a from ry)
  cases kd with
  | str z =>
    obtain ⟨rfl, o⟩ := r1.strI
    obtain ⟨kvs, h1, h2, h3⟩ := viewK r2 hf
    refine d_notIn (by omega) I (DGet.k (k := .inr z) h1) rx fun s' I' => ⟨.bl _, H, I', rfl, ?_⟩
    obtain ⟨f1, f2⟩ := h2.find (x := z)
    cases e : dfind ds (.str z) with
    | none => rw [f2 e]; rw [e] at q; exact q
    | some d => obtain ⟨v', e', _⟩ := f1 d e; rw [e']; rw [e] at q; exact q
  | tuple xs =>
    obtain ⟨b, k, rfl, kn⟩ := fitsKN hf r1
    cases (show v = Value.ref b from rx)
    obtain ⟨hs, ys, hd, hr, hl⟩ := viewN (y := .non) I r2 (fitsN hf).2.2
    refine notIn_keyed (kvs := pairsH ys) (room8 hu) (kn.is I) hs ⟨ys, hd, rfl⟩ ⟨.bl _, H, I.tok _, rfl, ?_⟩
    rw [valueAt_pairsH, Option.isSome_map]
    obtain ⟨f1, f2⟩ := hr.find kn.key
    cases e : dfind ds (.tuple xs) with
    | none => rw [f2 e]; rw [e] at q; exact q
    | some d => obtain ⟨a', u', v', e', _⟩ := f1 d e; rw [e']; rw [e] at q; exact q
  | _ => cases hf
/-- d[k], k there -/
def IxDR (X : Cx) : R2 := fun x y H Q => ∃ bd ds kd d, BadIn bd H ∧ RepT X.prog X.w H bd x (.dict ds) ∧ RepT X.prog X.w H bd y kd ∧ keyFits ds kd = true ∧ dfind ds kd = some d ∧ ∀ v, Rep X.prog X.w H bd v d → Q v H
theorem ix_dict (hu : X.A.units + 64 < cLine) : IxR X (IxDR X) := by
  intro value slice pins s σ H x y v u Q I rx ry h hs
  obtain ⟨bd, ds, kd, d, hb, r1, r2, hf, hd, q⟩ := h
  obtain ⟨a, rfl, _⟩ := r1.dictI
  cases (show v = Value.ref a from rx)
  cases kd with
  | str z =>
    obtain ⟨rfl, o⟩ := r2.strI
    obtain ⟨kvs, h1, h2, h3⟩ := viewK r1 hf
    obtain ⟨v', e', rv⟩ := (h2.find (x := z)).1 d hd
    have g : DGet H a (.str z) (some v') := by
      have := DGet.k (k := .inr z) h1
      rw [e'] at this
      exact this
    exact tail_any (dict_typeIs I g) PySem.F.slot_dict_getitem.lookup (d_getItem (by omega) I g ry fun w' s' I' rw' => ⟨v', H, I', rw', q v' rv⟩) hs
  | tuple xs =>
    obtain ⟨b, k, rfl, kn⟩ := fitsKN hf r2
    cases (show u = Value.ref b from ry)
    obtain ⟨hs2, ys, hdd, hr, hl⟩ := viewN (y := .non) I r1 (fitsN hf).2.2
    obtain ⟨a', u', v', e', rv', rp⟩ := (hr.find kn.key).1 d hd
    exact tail_any hdd.typeIs PySem.F.slot_dict_getitem.lookup (wpAny_getItem_heap (room8 hu) (kn.is I) hdd e' ⟨v', H, I.tok _, rv', q v' rp⟩) hs
  | _ => cases hf
theorem call_lenDict : CallR X (.builtin "len") (fun vs H Q => ∃ bd ds v, vs = [v] ∧ RepT X.prog X.w H bd v (.dict ds) ∧ Q (.int ds.length) H) := by
  intro pins s σ H vs us Q I r h
  obtain ⟨bd, ds, v, rfl, rd, q⟩ := h
  obtain ⟨u, rfl, ru⟩ := vals1 r
  obtain ⟨a, rfl, hh⟩ := rd.dictI
  cases (show u = Value.ref a from ru)
  rcases hh with ⟨kvs, h1, h2, h3⟩ | ⟨ep, xs, h1, h2, h3, h4, h5, h6⟩
  · refine d_len I (.inl h1) fun t s' I' => ⟨.int kvs.length, H, I', ⟨t, rfl⟩, ?_⟩
    rw [h3.length]; exact q
  · have dd := DN.of ⟨⟨ep, h1⟩, h2, h3, h5, h6⟩ I
    have hz := h2
    rw [sizeLine_eq] at hz
    have hlen : (pairsH xs).length = xs.length := pairsH_length xs
    refine PyProof.Rows.call_len_slot (n := (pairsH xs).length) dd.typeIs F.slot_dict_len (fun Q' hq => len_keyed h3 ⟨xs, dd, rfl⟩ hq) (by omega) (by omega) ⟨.int _, H, I.tok _, ⟨_, rfl⟩, ?_⟩
    rw [hlen, h6.length]; exact q
/-- d.get(k, x) -/
theorem mt_getDict (hu : X.A.units + 64 < cLine) : MtR X "dict.get" (fun x xs H Q => ∃ bd ds kd vk vd dd, xs = [vk, vd] ∧ BadIn bd H ∧ RepT X.prog X.w H bd x (.dict ds) ∧ RepT X.prog X.w H bd vk kd ∧ keyFits ds kd = true ∧ RepX X.prog X.w H bd false vd dd ∧
    ∀ v, Rep X.prog X.w H bd v ((dfind ds kd).getD dd) → Q v H) := by
  intro pins s σ H x xs v us Q I rx rxs h
  obtain ⟨bd, ds, kd, vk, vd, dd, rfl, hb, r1, r2, hf, r3, q⟩ := h
  obtain ⟨a, rfl, _⟩ := r1.dictI
  cases (show v = Value.ref a from rx)
  obtain ⟨u1, u2, rfl, ru1, ru2⟩ := vals2 rxs
  cases kd with
  | str z =>
    obtain ⟨rfl, o⟩ := r2.strI
    obtain ⟨kvs, h1, h2, h3⟩ := viewK r1 hf
    refine d_get2 (by omega) I (DGet.k (k := .inr z) h1) ru1 ru2 fun w' s' I' rw' => ⟨_, H, I', rw', q _ ?_⟩
    obtain ⟨f1, f2⟩ := h2.find (x := z)
    cases e : dfind ds (.str z) with
    | none => rw [f2 e]; exact r3
    | some d => obtain ⟨v', e', rp⟩ := f1 d e; rw [e']; exact rp
  | tuple xs =>
    obtain ⟨b, k, rfl, kn⟩ := fitsKN hf r2
    cases (show u1 = Value.ref b from ru1)
    obtain ⟨hs, ys, hd, hr, hl⟩ := viewN (y := .non) I r1 (fitsN hf).2.2
    obtain ⟨f1, f2⟩ := hr.find kn.key
    cases e : dfind ds (.tuple xs) with
    | none =>
      refine getOr_keyed (kvs := pairsH ys) (room8 hu) (kn.is I) hs ⟨ys, hd, rfl⟩ ?_
      rw [valueAt_pairsH, f2 e]
      exact ⟨vd, H, I.tok _, ru2, q _ (by rw [e]; exact r3)⟩
    | some d =>
      obtain ⟨a', u', v', e', ru', rp⟩ := f1 d e
      refine getOr_keyed (kvs := pairsH ys) (room8 hu) (kn.is I) hs ⟨ys, hd, rfl⟩ ?_
      rw [valueAt_pairsH, e']
      exact ⟨v', H, I.tok _, ru', q _ (by rw [e]; exact rp)⟩
  | _ => cases hf
end
end BT
set_option Elab.async false
set_option linter.all false
set_option maxRecDepth 100000
set_option maxHeartbeats 4000000
/-! BTBlt: products; built-in functions. -/
namespace BT
open PySem PySem.Spec PyProof.Rows L2

theorem okSb_iff {x : Str} (h : okSb x = true) : OkS x := by
  unfold okSb at h
  rw [Bool.and_eq_true] at h
  exact ⟨by rw [← lim_eq]; exact of_decide_eq_true h.1, h.2⟩
section
variable {X : Cx}
theorem op_mul_str : OpR X (binaryOp .Mult) (fun x y H Q => ∃ z j, x = .str z ∧ y = .int j ∧ (0 ≤ j ∧ j < 1000 ∧ z.length * j.toNat ≤ LIM) ∧ Q (.str (PySem.Txt.mul z j)) H) := by
  intro pins s σ H x y v u Q I rx ry h
  obtain ⟨z, j, rfl, rfl, ⟨h0, h1, h2⟩, q⟩ := h
  obtain ⟨t, rfl⟩ := rx
  obtain ⟨t', rfl⟩ := ry
  have hl : LIM = 16777216 := rfl
  have hz : z.length * j.toNat ≤ 16777216 := by rw [← hl]; exact h2
  refine PySem.SB.mul ⟨?_, fun h3 _ => ?_, fun h3 _ => ?_⟩ fun t' k => ⟨.str _, H, I.tok k, ⟨_, rfl⟩, q⟩
  · rw [Bool.or_eq_false_iff]
    exact ⟨decide_eq_false (by omega), decide_eq_false (by omega)⟩
  · have h4 : (z.length : Int) ≤ 16777216 := by
      have : 1 ≤ j.toNat := by omega
      have : z.length * 1 ≤ z.length * j.toNat := Nat.mul_le_mul_left _ this
      omega
    intro h5
    have h6 : (2 ^ 63 - 1 : Int) / 1000 ≤ (2 ^ 63 - 1) / j := by
      have : (2 ^ 63 - 1 : Int) / 1000 * j ≤ 2 ^ 63 - 1 := by omega
      exact (Int.le_ediv_iff_mul_le (by omega)).mpr this
    have h7 : (2 ^ 63 - 1 : Int) / 1000 = 9223372036854775 := by decide
    omega
  · simpa [Builtin.Str.tooLong, sizeLine_eq] using hz
theorem op2_mul : Op2 X (binaryOp .Mult) (binF .mul) := by
  intro dx dy
  refine ⟨fun c e => ?_, fun d e bd x y H Q hb rx ry q => ?_⟩
  · cases dx <;> cases dy <;> simp only [binF] at e <;> first | cases e | (have := gd_exc e; cases this)
  cases dx with
  | int i =>
    cases dy with
    | int j =>
      obtain ⟨e1, e2⟩ := gd_ok e
      injection e2 with e2; subst e2
      rw [Bool.or_eq_true] at e1
      exact any_of op_mul ⟨i, j, rx.intI, ry.intI, e1.elim (fun z => .inl (of_decide_eq_true z)) (fun z => .inr (of_decide_eq_true z)), q _ H (Same.refl _) (.int _)⟩
    | _ => cases e
  | list xs =>
    cases dy with
    | int j =>
      obtain ⟨e1, e2⟩ := gd_ok e
      injection e2 with e2; subst e2
      obtain ⟨h0, h1, h2⟩ := of_decide_eq_true e1
      rw [lim_eq] at h2
      obtain ⟨a, vs, rfl, ra, la, ta⟩ := rx.listI
      have hz : vs.length * j.toNat ≤ sizeLine := by rw [ta.length]; exact h2
      exact any_of op_rep ⟨a, j, vs, rfl, ry.intI, ra, by omega, by omega, hz, fun p hp => q _ _ (same_upd hp) (new_lst hb hp (by rw [len_rep]; exact hz) (ta.rep _))⟩
    | _ => cases e
  | str z =>
    cases dy with
    | int j =>
      obtain ⟨e1, e2⟩ := gd_ok e
      injection e2 with e2; subst e2
      rw [Bool.and_eq_true] at e1
      exact any_of op_mul_str ⟨z, j, rx.strI.1, ry.intI, of_decide_eq_true e1.1, q _ H (Same.refl _) (.str (okSb_iff e1.2))⟩
    | _ => cases e
  | _ => cases e

/-! ### built-in functions -/
def anyCall (X : Cx) (f : Value) : List V → Hp → VK → Prop := fun vs H Q => ∃ rr, CallR X f rr ∧ rr vs H Q
theorem any_call {f : Value} : CallR X f (anyCall X f) := fun pins s σ H vs us Q I r h => by
  obtain ⟨rr, ho, q⟩ := h
  exact ho pins s σ H vs us Q I r q
theorem call_of {f : Value} {rr : List V → Hp → VK → Prop} {vs : List V} {H : Hp} {Q : VK} (h : CallR X f rr) (q : rr vs H Q) : anyCall X f vs H Q := ⟨rr, h, q⟩
/-- what a call of a built-in must give -/
def BltOk (X : Cx) (f : Value) (g : List D → R D) : Prop := ∀ ds d, g ds = .ok d → ∀ bd vs H Q, BadIn bd H → RepTL X.prog X.w H bd vs ds → (∀ v H', Same H H' → Rep X.prog X.w H' bd v d → Q v H') → anyCall X f vs H Q
theorem blt_noexc {b : Blt} {ds : List D} {c : Str} : bltF b ds ≠ .exc c := by
  intro e
  unfold bltF at e
  split at e <;> first
    | cases e; done
    | (have := gd_exc e; cases this; done)
    | (rcases bind_excI e with h | ⟨a, h1, h2⟩ <;> first | exact ofO_noexc h | (have := gd_exc h2; cases this; done) | cases h2; done)
    | (have e2 := gd_exc e; rcases bind_excI e2 with h | ⟨a, h1, h2⟩ <;> first | exact ofO_noexc h | cases h2; done)
theorem tl1 {P : Program} {w : World} {H : Hp} {bd : Addr → Prop} {vs : List V} {d : D} (h : RepTL P w H bd vs [d]) : ∃ v, vs = [v] ∧ RepT P w H bd v d := by
  cases h with
  | cons a t => cases t; exact ⟨_, rfl, a⟩
theorem tl2 {P : Program} {w : World} {H : Hp} {bd : Addr → Prop} {vs : List V} {d e : D} (h : RepTL P w H bd vs [d, e]) : ∃ v u, vs = [v, u] ∧ RepT P w H bd v d ∧ RepT P w H bd u e := by
  cases h with
  | cons a t =>
    obtain ⟨u, rfl, b⟩ := tl1 t
    exact ⟨_, _, rfl, a, b⟩
theorem bools_map {P : Program} {w : World} {H : Hp} {bd : Addr → Prop} : ∀ {vs : List V} {ds : List D} {bs : List Bool}, RepL P w H bd vs ds → boolsOf ds = some bs → vs = bs.map V.bl
  | _, [], bs, h, e => by cases h; injection e with e; subst e; rfl
  | _, d :: ds, bs, h, e => by
    cases h with
    | cons a t =>
      cases d with
      | bool b =>
        have e : (boolsOf ds).map (b :: ·) = some bs := e
        cases e2 : boolsOf ds with
        | none => rw [e2] at e; cases e
        | some r =>
          rw [e2] at e; injection e with e; subst e
          rw [bools_map t e2]
          cases a; rfl
      | _ => cases e
theorem ints_map {P : Program} {w : World} {H : Hp} {bd : Addr → Prop} : ∀ {vs : List V} {ds : List D} {bs : List Int}, RepL P w H bd vs ds → intsOf ds = some bs → vs = bs.map V.int
  | _, [], bs, h, e => by cases h; injection e with e; subst e; rfl
  | _, d :: ds, bs, h, e => by
    cases h with
    | cons a t =>
      cases d with
      | int b =>
        have e : (intsOf ds).map (b :: ·) = some bs := e
        cases e2 : intsOf ds with
        | none => rw [e2] at e; cases e
        | some r =>
          rw [e2] at e; injection e with e; subst e
          rw [ints_map t e2]
          cases a; rfl
      | _ => cases e
theorem strs_map {P : Program} {w : World} {H : Hp} {bd : Addr → Prop} : ∀ {vs : List V} {ds : List D} {bs : List Str}, RepL P w H bd vs ds → strsOf ds = some bs → vs = bs.map V.str ∧ ∀ x ∈ bs, OkS x
  | _, [], bs, h, e => by cases h; injection e with e; subst e; exact ⟨rfl, fun _ h => nomatch h⟩
  | _, d :: ds, bs, h, e => by
    cases h with
    | cons a t =>
      cases d with
      | str b =>
        have e : (strsOf ds).map (b :: ·) = some bs := e
        cases e2 : strsOf ds with
        | none => rw [e2] at e; cases e
        | some r =>
          rw [e2] at e; injection e with e; subst e
          obtain ⟨h1, h2⟩ := strs_map t e2
          rw [h1]
          cases a with
          | str o => exact ⟨rfl, fun x hx => by rcases List.mem_cons.mp hx with rfl | hx; exact o; exact h2 x hx⟩
      | _ => cases e
theorem blt_len : BltOk X (.builtin "len") (bltF .len) := by
  intro ds d e bd vs H Q hb rs q
  match ds, e with
  | [.list xs], e =>
    injection e with e; subst e
    obtain ⟨v, rfl, r⟩ := tl1 rs
    obtain ⟨a, us, rfl, ra, la, ta⟩ := r.listI
    refine call_of call_len_seq ⟨a, us, rfl, .inl (SqL.of ra), ?_⟩
    rw [ta.length]
    exact q _ H (Same.refl _) (.int _)
  | [.tuple xs], e =>
    injection e with e; subst e
    obtain ⟨v, rfl, r⟩ := tl1 rs
    obtain ⟨a, us, rfl, na, ra, la, ta⟩ := r.tupI
    refine call_of call_len_seq ⟨a, us, rfl, .inr ra.sq, ?_⟩
    rw [ta.length]
    exact q _ H (Same.refl _) (.int _)
  | [.str x], e =>
    injection e with e; subst e
    obtain ⟨v, rfl, r⟩ := tl1 rs
    obtain ⟨rfl, o⟩ := r.strI
    exact call_of call_len_str ⟨x, rfl, o.1, q _ H (Same.refl _) (.int _)⟩
  | [.dict kvs], e =>
    injection e with e; subst e
    obtain ⟨v, rfl, r⟩ := tl1 rs
    exact call_of call_lenDict ⟨bd, kvs, v, rfl, r, q _ H (Same.refl _) (.int _)⟩
theorem blt_all (hc : X.calm = true) : BltOk X (.builtin "all") (bltF .all) := by
  intro ds d e bd vs H Q hb rs q
  match ds, e with
  | [.list xs], e =>
    obtain ⟨bs, e1, e2⟩ := bind_okI e
    injection e2 with e2; subst e2
    obtain ⟨v, rfl, r⟩ := tl1 rs
    obtain ⟨a, us, rfl, ra, la, ta⟩ := r.listI
    have hu := bools_map ta (ofO_ok e1)
    subst hu
    exact call_of (cr_all hc) ⟨a, bs, rfl, SqL.of ra, q _ H (Same.refl _) (.bl _)⟩
theorem blt_any (hc : X.calm = true) : BltOk X (.builtin "any") (bltF .any) := by
  intro ds d e bd vs H Q hb rs q
  match ds, e with
  | [.list xs], e =>
    obtain ⟨bs, e1, e2⟩ := bind_okI e
    injection e2 with e2; subst e2
    obtain ⟨v, rfl, r⟩ := tl1 rs
    obtain ⟨a, us, rfl, ra, la, ta⟩ := r.listI
    have hu := bools_map ta (ofO_ok e1)
    subst hu
    exact call_of (cr_any hc) ⟨a, bs, rfl, SqL.of ra, q _ H (Same.refl _) (.bl _)⟩
theorem blt_sum (hc : X.calm = true) : BltOk X (.builtin "sum") (bltF .sum) := by
  intro ds d e bd vs H Q hb rs q
  match ds, e with
  | [.list xs], e =>
    obtain ⟨bs, e1, e2⟩ := bind_okI e
    injection e2 with e2; subst e2
    obtain ⟨v, rfl, r⟩ := tl1 rs
    obtain ⟨a, us, rfl, ra, la, ta⟩ := r.listI
    have hu := ints_map ta (ofO_ok e1)
    subst hu
    exact call_of (cr_sum hc) ⟨a, bs, rfl, SqL.of ra, q _ H (Same.refl _) (.int _)⟩
theorem blt_int : BltOk X (.type "int") (bltF .int) := by
  intro ds d e bd vs H Q hb rs q
  match ds, e with
  | [.int i], e =>
    injection e with e; subst e
    obtain ⟨v, rfl, r⟩ := tl1 rs
    exact call_of call_int1 (.inl ⟨i, by rw [r.intI], q _ H (Same.refl _) (.int _)⟩)
  | [.bool b], e =>
    injection e with e; subst e
    obtain ⟨v, rfl, r⟩ := tl1 rs
    exact call_of call_int1 (.inr ⟨b, by rw [r.blI], q _ H (Same.refl _) (.int _)⟩)
theorem blt_str : BltOk X (.type "str") (bltF .str) := by
  intro ds d e bd vs H Q hb rs q
  match ds, e with
  | [.int i], e =>
    obtain ⟨e1, e2⟩ := gd_ok e
    injection e2 with e2; subst e2
    rw [Bool.and_eq_true] at e1
    obtain ⟨v, rfl, r⟩ := tl1 rs
    exact call_of call_str_int ⟨i, by rw [r.intI], of_decide_eq_true e1.1, q _ H (Same.refl _) (.str (okSb_iff e1.2))⟩
  | [.str x], e =>
    injection e with e; subst e
    obtain ⟨v, rfl, r⟩ := tl1 rs
    obtain ⟨rfl, o⟩ := r.strI
    exact call_of SkE.call_str_str ⟨x, rfl, q _ H (Same.refl _) (.str o)⟩
theorem blt_ord : BltOk X (.builtin "ord") (bltF .ord) := by
  intro ds d e bd vs H Q hb rs q
  match ds, e with
  | [.str x], e =>
    obtain ⟨e1, e2⟩ := gd_ok e
    injection e2 with e2; subst e2
    obtain ⟨v, rfl, r⟩ := tl1 rs
    obtain ⟨rfl, o⟩ := r.strI
    exact call_of call_ord ⟨x, rfl, of_decide_eq_true e1, q _ H (Same.refl _) (.int _)⟩
theorem blt_max2 (hc : X.calm = true) : BltOk X (.builtin "max") (bltF .max2) := by
  intro ds d e bd vs H Q hb rs q
  match ds, e with
  | [.int i, .int j], e =>
    injection e with e; subst e
    obtain ⟨v, u, rfl, r1, r2⟩ := tl2 rs
    exact call_of (call_max2 hc) ⟨i, j, by rw [r1.intI, r2.intI], q _ H (Same.refl _) (.int _)⟩
theorem blt_min2 (hc : X.calm = true) : BltOk X (.builtin "min") (bltF .min2) := by
  intro ds d e bd vs H Q hb rs q
  match ds, e with
  | [.int i, .int j], e =>
    injection e with e; subst e
    obtain ⟨v, u, rfl, r1, r2⟩ := tl2 rs
    exact call_of (call_min2 hc) ⟨i, j, by rw [r1.intI, r2.intI], q _ H (Same.refl _) (.int _)⟩
theorem maxL_mem : ∀ ns : List Int, ns ≠ [] → maxL ns ∈ ns ∧ ∀ y ∈ ns, y ≤ maxL ns
  | [], h => (h rfl).elim
  | [x], _ => ⟨by simp [maxL], by simp [maxL]⟩
  | x :: y :: r, _ => by
    obtain ⟨h1, h2⟩ := maxL_mem (y :: r) (by simp)
    simp only [maxL]
    refine ⟨?_, fun z hz => ?_⟩
    · by_cases h : x ≤ maxL (y :: r)
      · rw [Int.max_eq_right h]; exact List.mem_cons_of_mem _ h1
      · rw [Int.max_eq_left (by omega)]; exact List.mem_cons_self
    · rcases List.mem_cons.mp hz with rfl | hz
      · omega
      · have := h2 z hz; omega
theorem minL_mem : ∀ ns : List Int, ns ≠ [] → minL ns ∈ ns ∧ ∀ y ∈ ns, minL ns ≤ y
  | [], h => (h rfl).elim
  | [x], _ => ⟨by simp [minL], by simp [minL]⟩
  | x :: y :: r, _ => by
    obtain ⟨h1, h2⟩ := minL_mem (y :: r) (by simp)
    simp only [minL]
    refine ⟨?_, fun z hz => ?_⟩
    · by_cases h : x ≤ minL (y :: r)
      · rw [Int.min_eq_left h]; exact List.mem_cons_self
      · rw [Int.min_eq_right (by omega)]; exact List.mem_cons_of_mem _ h1
    · rcases List.mem_cons.mp hz with rfl | hz
      · omega
      · have := h2 z hz; omega
theorem blt_max1 (hc : X.calm = true) : BltOk X (.builtin "max") (bltF .max1) := by
  intro ds d e bd vs H Q hb rs q
  match ds, e with
  | [.list xs], e =>
    obtain ⟨bs, e1, e2⟩ := bind_okI e
    obtain ⟨e3, e4⟩ := gd_ok e2
    injection e4 with e4; subst e4
    obtain ⟨v, rfl, r⟩ := tl1 rs
    obtain ⟨a, us, rfl, ra, la, ta⟩ := r.listI
    have hu := ints_map ta (ofO_ok e1)
    subst hu
    have hne : bs ≠ [] := by intro z; subst z; cases e3
    obtain ⟨h1, h2⟩ := maxL_mem bs hne
    refine call_of (cr_max hc) ⟨a, bs, rfl, SqL.of ra, List.length_pos_iff.mpr hne, fun m hm hle => ?_⟩
    have : m = maxL bs := Int.le_antisymm (h2 m hm) (hle _ h1)
    subst this
    exact q _ H (Same.refl _) (.int _)
theorem blt_min1 (hc : X.calm = true) : BltOk X (.builtin "min") (bltF .min1) := by
  intro ds d e bd vs H Q hb rs q
  match ds, e with
  | [.list xs], e =>
    obtain ⟨bs, e1, e2⟩ := bind_okI e
    obtain ⟨e3, e4⟩ := gd_ok e2
    injection e4 with e4; subst e4
    obtain ⟨v, rfl, r⟩ := tl1 rs
    obtain ⟨a, us, rfl, ra, la, ta⟩ := r.listI
    have hu := ints_map ta (ofO_ok e1)
    subst hu
    have hne : bs ≠ [] := by intro z; subst z; cases e3
    obtain ⟨h1, h2⟩ := minL_mem bs hne
    refine call_of (cr_min hc) ⟨a, bs, rfl, SqL.of ra, List.length_pos_iff.mpr hne, fun m hm hle => ?_⟩
    have : m = minL bs := Int.le_antisymm (hle _ h1) (h2 m hm)
    subst this
    exact q _ H (Same.refl _) (.int _)
end
end BT
set_option Elab.async false
set_option linter.all false
set_option maxRecDepth 100000
set_option maxHeartbeats 4000000
/-! BTOps2: in, subscripts, slices, isinstance. -/
namespace BT
open PySem PySem.Spec PyProof.Rows L2

section
variable {X : Cx} {W : WishX} {lin : Lc}
theorem op_inT (hu : X.A.units + 65 < cLine) : OpR X (compareOp .In) (fun x y H Q => ∃ d ds, Dp X.K H x d ∧ Dp X.K H y (.tuple ds) ∧ SeqAt.shaped d = true ∧ SeqAt.shaped (.tuple ds) = true ∧ Q (.bl (ds.any fun z => PyData.eqv z d)) H) := by
  intro pins s σ H x y v u Q I rx ry h
  obtain ⟨d, ds, hd, he, sd, se, q⟩ := h
  obtain ⟨as, r1⟩ := Dp.reads I d x v hd rx
  obtain ⟨bs, r2⟩ := Dp.reads I (.tuple ds) y u he ry
  exact SeqAt.in_tuple_reads r2 r1 (SeqAt.canLay_of_shaped se) (SeqAt.canLay_of_shaped sd) (room_in_shaped sd hu) ⟨.bl _, H, I, rfl, q⟩
theorem op_notInT (hu : X.A.units + 65 < cLine) : OpR X (compareOp .NotIn) (fun x y H Q => ∃ d ds, Dp X.K H x d ∧ Dp X.K H y (.tuple ds) ∧ SeqAt.shaped d = true ∧ SeqAt.shaped (.tuple ds) = true ∧ Q (.bl (!ds.any fun z => PyData.eqv z d)) H) := by
  intro pins s σ H x y v u Q I rx ry h
  obtain ⟨d, ds, hd, he, sd, se, q⟩ := h
  obtain ⟨as, r1⟩ := Dp.reads I d x v hd rx
  obtain ⟨bs, r2⟩ := Dp.reads I (.tuple ds) y u he ry
  exact SeqAt.notIn_tuple_reads r2 r1 (SeqAt.canLay_of_shaped se) (SeqAt.canLay_of_shaped sd) (room_in_shaped sd hu) ⟨.bl _, H, I, rfl, q⟩
theorem in_noexc {x y : D} {c : Str} : inF x y ≠ .exc c := fun z => by
  unfold inF at z
  split at z
  · have := gd_exc z; cases this
  · have := gd_exc z; cases this
  · have := gd_exc z; cases this
  · split at z <;> cases z
  · cases z
theorem in_any {n : Bool} {op : CmpOp} (hu : X.A.units + 65 < cLine) (hop : op = if n then .NotIn else .In) {dx dy : D} {k : Bool} (e : inF dx dy = .ok k) {bd : Addr → Prop} {x y : V} {H : Hp} {Q : VK} (hb : BadIn bd H)
    (rx : RepT X.prog X.w H bd x dx) (ry : RepT X.prog X.w H bd y dy) (q : Q (.bl (if n then !k else k)) H) : anyOp X (compareOp op) x y H Q := by
  have shaped1 : ∀ {d : D}, shal 60 d = true → RepT X.prog X.w H bd x d → Dp X.K H x d ∧ SeqAt.shaped d = true := fun h r => by
    obtain ⟨p, l, dd⟩ := r.dp (K := X.K) h
    exact ⟨p, shaped_of l dd (by omega)⟩
  cases dy with
  | list ys =>
    obtain ⟨e1, e2⟩ := gd_ok (show R.gd _ _ = _ from e)
    injection e2 with e2; subst e2
    rw [Bool.and_eq_true] at e1
    obtain ⟨p1, s1⟩ := shaped1 e1.1 rx
    obtain ⟨p2, l2, d2⟩ := ry.dp (K := X.K) (n := 61) (by simpa [shal] using e1.2)
    have s2 := shaped_of l2 d2 (by omega)
    cases n with
    | false => rw [hop]; exact any_of (op_inD hu) ⟨dx, ys, p1, p2, s1, s2, q⟩
    | true => rw [hop]; exact any_of (op_notInD hu) ⟨dx, ys, p1, p2, s1, s2, q⟩
  | tuple ys =>
    obtain ⟨e1, e2⟩ := gd_ok (show R.gd _ _ = _ from e)
    injection e2 with e2; subst e2
    rw [Bool.and_eq_true] at e1
    obtain ⟨p1, s1⟩ := shaped1 e1.1 rx
    obtain ⟨p2, l2, d2⟩ := ry.dp (K := X.K) (n := 61) (by simpa [shal] using e1.2)
    have s2 := shaped_of l2 d2 (by omega)
    cases n with
    | false => rw [hop]; exact any_of (op_inT hu) ⟨dx, ys, p1, p2, s1, s2, q⟩
    | true => rw [hop]; exact any_of (op_notInT hu) ⟨dx, ys, p1, p2, s1, s2, q⟩
  | dict kvs =>
    obtain ⟨e1, e2⟩ := gd_ok (show R.gd _ _ = _ from e)
    injection e2 with e2; subst e2
    cases n with
    | false => rw [hop]; exact any_of (op_inDict (by omega)) ⟨bd, kvs, dx, hb, rx, ry, e1, q⟩
    | true => rw [hop]; exact any_of (op_notInDict (by omega)) ⟨bd, kvs, dx, hb, rx, ry, e1, q⟩
  | str z =>
    cases dx with
    | str t =>
      injection e with e; subst e
      cases n with
      | false => rw [hop]; exact any_of op_in_str ⟨t, z, rx.strI.1, ry.strI.1, q⟩
      | true => rw [hop]; exact any_of op_notin_str ⟨t, z, rx.strI.1, ry.strI.1, q⟩
    | _ => cases e
  | _ => cases e
theorem cmp_in (hu : X.A.units + 65 < cLine) : Cmp2 X .In (cmpF .isin) := by
  refine cmp2_of (fun _ _ _ => cmp_noexc) fun dx dy k e bd x y H Q hb rx ry q => ?_
  exact in_any (n := false) hu rfl (show inF dx dy = .ok k from e) hb rx ry q
theorem cmp_notin (hu : X.A.units + 65 < cLine) : Cmp2 X .NotIn (cmpF .notin) := by
  refine cmp2_of (fun _ _ _ => cmp_noexc) fun dx dy k e bd x y H Q hb rx ry q => ?_
  obtain ⟨k', e1, e2⟩ := bind_okI (show (inF dx dy).bind _ = _ from e)
  injection e2 with e2; subst e2
  exact in_any (n := true) hu rfl e1 hb rx ry q

/-! ### subscripts -/
def anyIx (X : Cx) : R2 := fun x y H Q => ∃ rr, IxR X rr ∧ rr x y H Q
theorem any_ix : IxR X (anyIx X) := fun value slice pins s σ H x y v u Q I rx ry h hs => by
  obtain ⟨rr, ho, q⟩ := h
  exact ho value slice pins s σ H x y v u Q I rx ry q hs
theorem ix_of {rr : R2} {x y : V} {H : Hp} {Q : VK} (h : IxR X rr) (q : rr x y H Q) : anyIx X x y H Q := ⟨rr, h, q⟩
theorem atI_eq {α : Type} (xs : List α) (i : Int) : atI xs i = atOf xs i := rfl
theorem atOf_rep {P : Program} {w : World} {H : Hp} {bd : Addr → Prop} {vs : List V} {ds : List D} {i : Int} {d : D} (t : RepL P w H bd vs ds) (e : atOf ds i = some d) : ∃ v, atI vs i = some v ∧ Rep P w H bd v d := by
  unfold atOf at e
  rw [Option.bind_eq_some_iff] at e
  obtain ⟨j, e1, e2⟩ := e
  obtain ⟨v, h1, h2⟩ := t.get' e2
  refine ⟨v, ?_, h2⟩
  show (ixOf vs.length i).bind _ = some v
  rw [t.length, e1]
  exact h1
theorem idx_noexc {x y : D} {c : Str} : idxF x y ≠ .exc c := fun z => by
  unfold idxF at z
  split at z
  · exact ofO_noexc z
  · exact ofO_noexc z
  · rcases bind_excI z with h | ⟨a, h1, h2⟩
    · exact ofO_noexc h
    · cases h2
  · exact ofO_noexc (gd_exc z)
  · cases z
theorem mem_atOf {α : Type} {xs : List α} {i : Int} {a : α} (h : atOf xs i = some a) : a ∈ xs := by
  unfold atOf at h
  rw [Option.bind_eq_some_iff] at h
  obtain ⟨j, _, h2⟩ := h
  exact List.mem_of_getElem? h2
theorem ix_any (hu : X.A.units + 64 < cLine) {dx dy d : D} (e : idxF dx dy = .ok d) {bd : Addr → Prop} {x y : V} {H : Hp} {Q : VK} (hb : BadIn bd H)
    (rx : RepT X.prog X.w H bd x dx) (ry : RepT X.prog X.w H bd y dy) (q : ∀ v H', Same H H' → Rep X.prog X.w H' bd v d → Q v H') : anyIx X x y H Q := by
  cases dx with
  | list xs =>
    cases dy with
    | int i =>
      obtain ⟨a, vs, rfl, ra, la, ta⟩ := rx.listI
      obtain ⟨v, h1, h2⟩ := atOf_rep ta (ofO_ok e)
      exact ix_of ix_list ⟨a, vs, i, v, rfl, ry.intI, SqL.of ra, h1, q _ H (Same.refl _) h2⟩
    | _ => cases e
  | tuple xs =>
    cases dy with
    | int i =>
      obtain ⟨a, vs, rfl, na, ra, la, ta⟩ := rx.tupI
      obtain ⟨v, h1, h2⟩ := atOf_rep ta (ofO_ok e)
      exact ix_of ix_tup ⟨a, vs, i, v, rfl, ry.intI, ra.sq, h1, q _ H (Same.refl _) h2⟩
    | _ => cases e
  | str z =>
    cases dy with
    | int i =>
      obtain ⟨c, e1, e2⟩ := bind_okI e
      injection e2 with e2; subst e2
      obtain ⟨rfl, o⟩ := rx.strI
      have e3 := ofO_ok e1
      exact ix_of ix_str ⟨z, i, c, rfl, ry.intI, o.1, e3, q _ H (Same.refl _) (.str (okS_char o (mem_atOf e3)))⟩
    | _ => cases e
  | dict kvs =>
    have e' : R.gd (keyFits kvs dy) (R.ofO (dfind kvs dy)) = .ok d := by cases dy <;> exact e
    obtain ⟨e1, e2⟩ := gd_ok e'
    exact ix_of (ix_dict hu) ⟨bd, kvs, dy, d, hb, rx, ry, e1, ofO_ok e2, fun v r => q v H (Same.refl _) r⟩
  | _ => cases e
theorem s_idx (hu : X.A.units + 64 < cLine) {a b : Expr} {pos : Pos} {b1 b2 : Bool} {fa fb : En → R D} (ha : PE X a (ER X W lin b1 fa)) (hb : PE X b (ER X W lin b2 fb)) (hs : PlainIx b) :
    PE X (.Subscript a b pos) (ER X W lin false fun r => (fa r).bind fun x => (fb r).bind fun y => idxF x y) := by
  refine pe_imp (pe_ix any_ix ha hb hs) fun σ H Q h => ?_
  refine ER.bind (b := b1) (g := fun x r => (fb r).bind fun y => idxF x y) h fun bd r d v H1 hb he e1 rv q => ?_
  refine ⟨bd, r, hb, he, ?_⟩
  cases e2 : fb r with
  | bad => simp only [e2, R.bind_bad] at q
  | exc c => simp only [e2, R.bind_exc] at q; exact q
  | ok d2 =>
    simp only [e2, R.bind_ok] at q
    intro v2 H2 s2 rv2
    cases e3 : idxF d d2 with
    | bad => simp only [e3] at q
    | exc c => exact (idx_noexc e3).elim
    | ok d3 =>
      simp only [e3] at q
      exact ix_any hu e3 (hb.same s2) (rv.t.same s2) rv2.t fun v3 H3 s3 r3 => q v3 H3 (s2.trans s3) r3

/-! ### slices -/
def anySl (X : Cx) : V → Option Int → Option Int → Hp → VK → Prop := fun x l h H Q => ∃ rr, SlR X rr ∧ rr x l h H Q
theorem any_sl : SlR X (anySl X) := fun pins s σ H x v vl vu lo hi sl Q I rx hs pl pu h => by
  obtain ⟨rr, ho, q⟩ := h
  exact ho pins s σ H x v vl vu lo hi sl Q I rx hs pl pu q
theorem sl_of {rr : V → Option Int → Option Int → Hp → VK → Prop} {x : V} {l h : Option Int} {H : Hp} {Q : VK} (ho : SlR X rr) (q : rr x l h H Q) : anySl X x l h H Q := ⟨rr, ho, q⟩
theorem sIx_eq (n d : Nat) (o : Option Int) : HT.sIx n d o = sIx n d o := by cases o <;> rfl
theorem cut_rep {P : Program} {w : World} {H : Hp} {bd : Addr → Prop} {vs : List V} {ds : List D} (t : RepL P w H bd vs ds) (lo hi : Option Int) : RepL P w H bd (cutV vs lo hi) (cutL ds lo hi) := by
  unfold cutV cutL
  simp only [sIx_eq, t.length]
  exact (t.drop _).take _
theorem cut_len {α : Type} (xs : List α) (lo hi : Option Int) : (cutL xs lo hi).length ≤ xs.length := by
  unfold cutL
  rw [List.length_take, List.length_drop]
  omega
theorem cut_mem {α : Type} {xs : List α} {lo hi : Option Int} {a : α} (h : a ∈ cutL xs lo hi) : a ∈ xs := List.mem_of_mem_drop (List.mem_of_mem_take h)
theorem cutS_eq (z : Str) (lo hi : Option Int) : cutS z lo hi = cutStr z lo hi := by
  unfold cutS cutStr cutL
  simp only [sIx_eq]
  have e : z.cps.toList.length = z.length := by simp [Str.length]
  rw [e]
theorem cut_whole {α : Type} {xs : List α} {lo hi : Option Int} (h : sIx xs.length 0 lo = 0 ∧ sIx xs.length xs.length hi = xs.length) : cutL xs lo hi = xs := by
  unfold cutL
  rw [h.1, h.2]
  simp
theorem sl_any {dx d : D} {l h : Option Int} (e : slcF dx l h = .ok d) {bd : Addr → Prop} {x : V} {H : Hp} {Q : VK} (hb : BadIn bd H)
    (rx : RepT X.prog X.w H bd x dx) (q : ∀ v H', Same H H' → Rep X.prog X.w H' bd v d → Q v H') : anySl X x l h H Q := by
  cases dx with
  | list xs =>
    injection e with e; subst e
    obtain ⟨a, vs, rfl, ra, la, ta⟩ := rx.listI
    refine sl_of sl_list ⟨a, vs, rfl, SqL.of ra, fun p hp => q _ _ (same_upd hp) (new_lst hb hp ?_ (cut_rep ta l h))⟩
    have := cut_len xs l h
    have e2 := (cut_rep ta l h).length
    have e3 := ta.length
    omega
  | tuple xs =>
    injection e with e; subst e
    obtain ⟨a, vs, rfl, na, ra, la, ta⟩ := rx.tupI
    refine sl_of sl_tupF ⟨a, vs, rfl, ra.sq, fun hw => ?_, fun _ p o hp ho => q _ _ (same_upd hp) (new_tup ho hb hp ?_ (cut_rep ta l h))⟩
    · simp only [sIx_eq, ta.length] at hw
      rw [cut_whole hw] at q
      exact q _ H (Same.refl _) (.tup na ra la ta)
    · have := cut_len xs l h
      have e2 := (cut_rep ta l h).length
      have e3 := ta.length
      omega
  | str z =>
    injection e with e; subst e
    obtain ⟨rfl, o⟩ := rx.strI
    refine sl_of sl_str ⟨z, rfl, o.1, ?_⟩
    rw [cutS_eq]
    refine q _ H (Same.refl _) (.str (okS_sub o ?_ fun c hc => ?_))
    · have := cut_len z.cps.toList l h
      simpa [cutStr, Str.length] using this
    · have : c ∈ cutL z.cps.toList l h := by simpa [cutStr] using hc
      exact cut_mem this
  | _ => cases e
theorem slc_noexc {x : D} {l h : Option Int} {c : Str} : slcF x l h ≠ .exc c := by cases x <;> (intro z; cases z)
theorem toI_noexc {x : D} {c : Str} : toI x ≠ .exc c := by cases x <;> (intro z; cases z)
/-- a part of a slice -/
def OR (X : Cx) (W : WishX) (lin : Lc) (f : En → R (Option Int)) : TO := fun σ H Q => ∃ bd r, BadIn bd H ∧ EnvOk X.prog X.w bd lin r σ H ∧
  match f r with
  | .ok k => ∀ H', Same H H' → Q k H'
  | .exc c => ∀ H', Same H H' → W c σ H'
  | .bad => False
theorem o_none : PO X none (OR X W lin fun _ => .ok none) := ⟨fun pins s σ H Q I h => po_none.run pins s σ H Q I (by
  obtain ⟨bd, r, hb, he, q⟩ := h
  exact q H (Same.refl _))⟩
theorem o_some {e : Expr} {b : Bool} {f : En → R D} (he : PE X e (ER X W lin b f)) : PO X (some e) (OR X W lin fun r => (f r).bind toI) := ⟨fun pins s σ H Q I h => (po_some he).run pins s σ H Q I (by
  obtain ⟨bd, r, hb, hen, q⟩ := h
  refine ⟨bd, r, hb, hen, ?_⟩
  cases e1 : f r with
  | bad => simp only [e1, R.bind_bad] at q
  | exc c => simp only [e1, R.bind_exc] at q; exact q
  | ok d =>
    simp only [e1, R.bind_ok] at q
    intro v H1 s1 rv
    cases d with
    | int i => exact ⟨i, rv.t.intI, q H1 s1⟩
    | _ => exact q.elim)⟩
theorem s_slc {a : Expr} {lo hi : Option Expr} {p2 pos : Pos} {b1 : Bool} {fa : En → R D} {fl fh : En → R (Option Int)} (ha : PE X a (ER X W lin b1 fa)) (hl : PO X lo (OR X W lin fl)) (hh : PO X hi (OR X W lin fh)) :
    PE X (.Subscript a (.Slice lo hi none p2) pos) (ER X W lin false fun r => (fa r).bind fun x => (fl r).bind fun l => (fh r).bind fun h => slcF x l h) := by
  refine pe_imp (pe_slice any_sl ha hl hh) fun σ H Q h => ?_
  refine ER.bind (b := b1) (g := fun x r => (fl r).bind fun l => (fh r).bind fun h => slcF x l h) h fun bd r d v H1 hb he e1 rv q => ?_
  refine ⟨bd, r, hb, he, ?_⟩
  cases e2 : fl r with
  | bad => simp only [e2, R.bind_bad] at q
  | exc c => simp only [e2, R.bind_exc] at q; exact q
  | ok l =>
    simp only [e2, R.bind_ok] at q
    intro H2 s2
    refine ⟨bd, r, hb.same s2, he.same s2, ?_⟩
    cases e3 : fh r with
    | bad => simp only [e3, R.bind_bad] at q
    | exc c => simp only [e3, R.bind_exc] at q; exact fun H3 s3 => q H3 (s2.trans s3)
    | ok k =>
      simp only [e3, R.bind_ok] at q
      intro H3 s3
      have s23 := s2.trans s3
      cases e4 : slcF d l k with
      | bad => simp only [e4] at q
      | exc c => exact (slc_noexc e4).elim
      | ok d3 =>
        simp only [e4] at q
        exact sl_any e4 (hb.same s23) (rv.t.same s23) fun v3 H4 s4 r3 => q v3 H4 (s23.trans s4) r3

/-! ### isinstance -/
def tyName : Ty → String
  | .tint => "int"
  | .tstr => "str"
  | .tbool => "bool"
  | .ttup => "tuple"
  | .tlst => "list"
def tyOfD : D → String
  | .none => "NoneType"
  | .bool _ => "bool"
  | .int _ => "int"
  | .str _ => "str"
  | .list _ => "list"
  | .tuple _ => "tuple"
  | .dict _ => "dict"
theorem tyX_of {K : PySem.W.Frag} {P : Program} {w : World} {H : Hp} {bd : Addr → Prop} {v : V} {d : D} (r : RepT P w H bd v d) (hd : ∀ kvs, d ≠ .dict kvs) : TyX K H v (.type (tyOfD d)) := by
  cases d with
  | none => rw [r.nonI]; exact .base .non
  | bool b => rw [r.blI]; exact .base (.bl b)
  | int b => rw [r.intI]; exact .base (.int b)
  | str b => rw [r.strI.1]; exact .base (.str b)
  | list b => obtain ⟨a, vs, rfl, ra, _⟩ := r.listI; exact .base (.lst ra)
  | tuple b => obtain ⟨a, vs, rfl, na, ⟨o, ra, _⟩, _⟩ := r.tupI; exact .fTuple ra
  | dict b => exact (hd b rfl).elim
theorem kit_of_ty (K : PySem.W.Frag) (d : D) (t : Ty) : PySem.W.kitOne K (.type (tyOfD d)) (.type (tyName t)) = some (isTy d t) := by
  refine kit_ty ?_
  cases t <;> cases d <;> simp only [tyOfD, tyName, isTy] <;> decide +kernel
theorem kitAny_of_ty (K : PySem.W.Frag) (d : D) : ∀ ts : List Ty, PySem.W.kitAny K (.type (tyOfD d)) (ts.map fun t => Value.type (tyName t)) = some (ts.any fun t => isTy d t)
  | [] => rfl
  | t :: ts => by
    refine kitAny_cons (kit_of_ty K d t) (fun e => ?_) fun e => ?_
    · rw [List.any_cons, e, Bool.false_or]; exact kitAny_of_ty K d ts
    · rw [List.any_cons, e]; rfl

/-- the types that isinstance names, as values -/
theorem ty_vals : ∀ ts : List Ty, Paired ClsV (ts.map fun t => V.ty (tyName t)) (ts.map fun t => Value.type (tyName t))
  | [] => .nil
  | t :: ts => .cons (.ty _) (ty_vals ts)
/-- isinstance(a, T) -/
theorem s_isi1 {a : Expr} {t : Ty} {p p2 pos : Pos} {b : Bool} {f : En → R D} (hg : Gl X "isinstance") (hm : X.mg "isinstance" = none) (ha : PE X a (ER X W lin b f)) (hgt : Gl X (tyName t)) (hmt : X.mg (tyName t) = none)
    (hst : starEach [a, .Name (tyName t) p2] X.env = (false, eval a X.env) :: starEach [.Name (tyName t) p2] X.env) :
    PE X (.Call (.Name "isinstance" p) [a, .Name (tyName t) p2] [] pos) (ER X W lin false fun r => (f r).bind fun x => (isiF x [t])) := by
  have hty : PE X (.Name (tyName t) p2) (tC (.ty (tyName t))) := pe_bltn hgt hmt (u := .type (tyName t)) (by cases t <;> (show bootBuiltins _ = _) <;> decide +kernel) rfl (by cases t <;> decide) (by cases t <;> decide)
  refine pe_imp (pe_callB call_isi hg hm (by decide +kernel) (pa_cons ha (pa_cons hty pa_nil) hst) (he := hst) (hpl := rfl)) fun σ H Q h => ?_
  refine ER.bind (b := b) (g := fun x r => isiF x [t]) h fun bd r d v H1 hb he e1 rv q => ?_
  by_cases hd : ∃ kvs, d = .dict kvs
  · obtain ⟨kvs, rfl⟩ := hd; exact q.elim
  · have q' : ∀ v H2, Same H1 H2 → RepX X.prog X.w H2 bd false v (.bool (isTy d t)) → Q v H2 := by
      have e : isiF d [t] = .ok (.bool (isTy d t)) := by
        cases d <;> first | exact (hd ⟨_, rfl⟩).elim | simp [isiF]
      rw [e] at q
      exact q
    exact ⟨v, .ty (tyName t), .type (tyOfD d), .type (tyName t), isTy d t, rfl, .ty _, tyX_of rv.t (fun kvs z => hd ⟨kvs, z⟩), kit_of_ty X.K d t, q' _ H1 (Same.refl _) (.bl _)⟩
/-- the names of types, one behind the other -/
theorem pa_tys : ∀ {ts : List Ty} {ps : List Pos}, (∀ t ∈ ts, Gl X (tyName t) ∧ X.mg (tyName t) = none) → ps.length = ts.length →
    PA X (List.zipWith (fun t p => Expr.Name (tyName t) p) ts ps) (fun _ H Q => Q (ts.map fun t => V.ty (tyName t)) H)
  | [], _, _, _ => pa_imp pa_nil fun _ _ _ h => h
  | t :: ts, [], _, hl => by cases hl
  | t :: ts, p :: ps, h, hl => by
    have hty : PE X (.Name (tyName t) p) (tC (.ty (tyName t))) := pe_bltn (h t (.head _)).1 (h t (.head _)).2 (u := .type (tyName t)) (by cases t <;> (show bootBuiltins _ = _) <;> decide +kernel) rfl (by cases t <;> decide) (by cases t <;> decide)
    have hr := pa_tys (ts := ts) (ps := ps) (fun t ht => h t (.tail _ ht)) (by simpa using hl)
    exact pa_imp (pa_cons hty hr rfl) fun σ H Q h => h
/-- isinstance(a, (T1, T2, ..)) -/
theorem s_isiT {a : Expr} {ts : List Ty} {ps : List Pos} {k : Nat} {p p2 pos : Pos} {b : Bool} {f : En → R D} (hg : Gl X "isinstance") (hm : X.mg "isinstance" = none) (ha : PE X a (ER X W lin b f)) (hts : ∀ t ∈ ts, Gl X (tyName t) ∧ X.mg (tyName t) = none) (hl : ps.length = ts.length) (hz : ts.length ≤ sizeLine)
    (hst : starEach [a, .Tuple (List.zipWith (fun t p => Expr.Name (tyName t) p) ts ps) k p2] X.env = (false, eval a X.env) :: starEach [.Tuple (List.zipWith (fun t p => Expr.Name (tyName t) p) ts ps) k p2] X.env) :
    PE X (.Call (.Name "isinstance" p) [a, .Tuple (List.zipWith (fun t p => Expr.Name (tyName t) p) ts ps) k p2] [] pos) (ER X W lin false fun r => (f r).bind fun x => (isiF x ts)) := by
  refine pe_imp (pe_callB call_isiT hg hm (by decide +kernel) (pa_cons ha (pa_cons (pe_tup (pa_tys hts hl)) pa_nil) hst) (he := hst) (hpl := rfl)) fun σ H Q h => ?_
  refine ER.bind (b := b) (g := fun x r => isiF x ts) h fun bd r d v H1 hb he e1 rv q => ?_
  by_cases hd : ∃ kvs, d = .dict kvs
  · obtain ⟨kvs, rfl⟩ := hd; exact q.elim
  · have q' : ∀ v H2, Same H1 H2 → RepX X.prog X.w H2 bd false v (.bool (ts.any fun t => isTy d t)) → Q v H2 := by
      have e : isiF d ts = .ok (.bool (ts.any fun t => isTy d t)) := by
        cases d <;> first | exact (hd ⟨_, rfl⟩).elim | rfl
      rw [e] at q
      exact q
    refine ⟨by rw [List.length_map]; exact hz, fun tp htp => ?_⟩
    have s1 := same_upd (o := .tup (ts.map fun t => V.ty (tyName t))) htp
    exact ⟨v, tp, _, .type (tyOfD d), _, _, rfl, upd_same, ty_vals ts, tyX_of (rv.t.same s1) (fun kvs z => hd ⟨kvs, z⟩), kitAny_of_ty X.K d ts, q' _ _ s1 (.bl _)⟩
end
end BT
set_option Elab.async false
set_option linter.all false
set_option maxRecDepth 100000
set_option maxHeartbeats 8000000
/-! BTDk: dicts with tuple keys: walked, listed, displayed. -/
namespace BT
open PySem PySem.Spec PyProof.Rows L2
theorem RepN.keys {P : Program} {w : World} {H : Hp} {bd : Addr → Prop} : ∀ {xs : List (NestedKey × Addr × Value)} {ds : List (D × D)}, RepN P w H bd xs ds → RepL P w H bd (xs.map fun x => .ref x.2.1) (keysOf ds)
  | _, [], h => by cases h; exact .nil
  | _, _ :: _, h => by cases h with | cons e s i a u b t => exact .cons a (RepN.keys t)
theorem vals_refs : ∀ {xs : List (NestedKey × Addr × Value)} {us : List Value}, us.length = xs.length → (∀ (j : Nat) (v : Value), us[j]? = some v → ∃ y, xs[j]? = some y ∧ v = .ref y.2.1) → Vals (xs.map fun x => V.ref x.2.1) us
  | [], [], _, _ => .nil
  | [], _ :: _, h, _ => by cases h
  | _ :: _, [], h, _ => by cases h
  | x :: xs, u :: us, h, hv => by
    obtain ⟨y, e1, e2⟩ := hv 0 u rfl
    injection e1 with e1; subst e1
    refine .cons (show u = .ref x.2.1 from e2) (vals_refs (by simpa using h) fun j v e => ?_)
    obtain ⟨y, g1, g2⟩ := hv (j + 1) v (by simpa using e)
    exact ⟨y, by simpa using g1, g2⟩
section
variable {X : Cx}
/-- the look at its entries -/
theorem raw_of {h : Heap} {a : Addr} {xs : List (NestedKey × Addr × Value)} (d : h.DictOfH (nestedKind X.prog X.w) a xs) : ∃ es ep, h.DictRaw a es ep ∧ es.size = xs.length ∧ ∀ (j : Nat) (v : Value), (∃ hj : j < es.size, v = es[j].key) → ∃ y, xs[j]? = some y ∧ v = .ref y.2.1 := by
  obtain ⟨o, es, ep, g1, g2, g3, g4, g5, g6⟩ := d
  refine ⟨es, ep, ⟨o, g1, g2, g3⟩, size_of_entries g4, fun j v ⟨hj, e⟩ => ?_⟩
  have h1 := entry_at g4 j
  rw [Array.getElem?_eq_getElem hj] at h1
  cases h2 : xs[j]? with
  | none => rw [h2] at h1; cases h1
  | some y =>
    rw [h2] at h1
    injection h1 with h1
    exact ⟨y, rfl, by rw [e, h1]; rfl⟩
/-- list(d) -/
theorem call_listN (hcalm : X.calm = true) : CallR X (.type "list") (fun vs H Q => ∃ bd a ds, vs = [.ref a] ∧ RepT X.prog X.w H bd (.ref a) (.dict ds) ∧ (ds.all fun kv => isTupD kv.1) = true ∧
    ∀ xs, RepN X.prog X.w H bd xs ds → xs.length ≤ sizeLine → ∀ p, H p = none → Q (.ref p) (upd H p (.lst (xs.map fun x => .ref x.2.1)))) := by
  intro pins s σ H vs us Q I r q
  obtain ⟨bd, a, ds, rfl, rT, ht, q⟩ := q
  obtain ⟨u, rfl, ru⟩ := vals1 r
  cases ru
  obtain ⟨hsys, xs, hd, rn, hz⟩ := viewN (y := .non) I rT ht
  obtain ⟨es, ep, raw, hsz, hkey⟩ := raw_of hd
  refine PySem.W.kdl_call (KdlSrc.rawDict hsys) (I.ok.hd hcalm) raw (by rw [hsz]; exact hz) fun h2 tk acc c2 hk hS hacc => ?_
  have hv : Vals (xs.map fun x => V.ref x.2.1) acc.toList := vals_refs (by rw [Array.length_toList, hacc.1]; exact hsz) fun j v e => hkey j v (hacc.2 j v (by rw [← Array.getElem?_toList]; exact e))
  exact ⟨.ref s.heap.objs.size, _, I.laid (t' := tk) (a := s.heap.objs.size) (o := .lst (xs.map fun x => V.ref x.2.1)) hk (Nat.le_refl _) ⟨by rw [List.length_map]; exact hz, acc.toList, c2, hv, by rw [Array.toArray_toList]; exact hS⟩, rfl, q xs rn hz _ (I.hok.fresh (Nat.le_refl _))⟩
/-- tuple(d): the code -/
theorem code_tupN {prog : Program} {w : World} {A : Around} {E : Value → Shared → Prop} {s : Shared} {a : Addr} {n : Nat} {PP : Nat → Value → Prop} {OK : Heap → Prop} {Q1 : Value → Shared → Prop} (K : PySem.W.KdlSrc prog w "dict" a a n PP OK) (hh : A.handled = none) (ok : OK s.heap) (hn : n ≤ sizeLine)
    (q : ∀ (h2 : Heap) (tk : Nat) (acc : Array Value), (∀ b o, s.heap.get? b = some o → h2.get? b = some o) → ItemsOf PP acc n → Q1 (.ref h2.objs.size) { s with heap := h2.push { cls := .type "tuple", data := .seq acc }, toks := tk }) :
    codeAny (model prog w) A (.call (.builtin "tuple.__new__") ⟨[.type "tuple", .ref a], []⟩) (wants Q1 E) s := by
  refine codeAny_of_tree ?_
  show wpAny _ A.in1 (do checkBuiltinCall "tuple.__new__" ⟨[.type "tuple", .ref a], []⟩; again (.builtin "tuple.__new__" ⟨[.type "tuple", .ref a], []⟩)) _ _ s
  refine wpAny_bind (wpAny_of_eq (F.newCall_tuple_1 _) (wpAny_pure ⟨plainId_quiet F.plain_tuple_new _, codeAny_builtin F.entry_tuple_new ?_⟩))
  rw [Around.under_plainId F.plain_tuple_new _]
  have hsub := sub_tuple_self
  have hinit := init_tuple_lookup
  have hmh := madeHere_tuple
  have hT := K.type s ok
  have h1 : A.in1.handled = none := hh
  wp_walk using wpAny_typeOf hT, PySem.W.kdu_collect (A := A.in1) K h1 ok hn
  intro h2 tk acc hk hacc
  show wpAny _ _ (Builtin.Tuple.tupleExact acc.toList.toArray >>= fun v => ret v) _ _ _
  unfold Builtin.Tuple.tupleExact
  have e : acc.toList.toArray = acc := by simp
  rw [e]
  exact wpAny_bind (wpAny_newObj_type (wpAny_pure (q h2 tk acc hk hacc)) (by show acc.size ≤ sizeLine; rw [hacc.1]; exact hn))
/-- tuple(d) -/
theorem call_tupN (hcalm : X.calm = true) : CallR X (.type "tuple") (fun vs H Q => ∃ bd a ds, vs = [.ref a] ∧ RepT X.prog X.w H bd (.ref a) (.dict ds) ∧ (ds.all fun kv => isTupD kv.1) = true ∧
    ∀ xs, RepN X.prog X.w H bd xs ds → xs.length ≤ sizeLine → ∀ p o, H p = none → o.dict = none → Q (.ref p) (upd H p (.frz o (.tup (xs.map fun x => .ref x.2.1))))) := by
  intro pins s σ H vs us Q I r q
  obtain ⟨bd, a, ds, rfl, rT, ht, q⟩ := q
  obtain ⟨u, rfl, ru⟩ := vals1 r
  cases ru
  obtain ⟨hsys, xs, hd, rn, hz⟩ := viewN (y := .non) I rT ht
  obtain ⟨es, ep, raw, hsz, hkey⟩ := raw_of hd
  refine callType_codes (Q₁ := fun ob s1 => s1.TypeIs ob "tuple" ∧ EP X pins σ Q ob s1) F.called_tuple (F.typeCall_tuple_1 _) F.entry_object_init
    (code_tupN (A := X.A.in1) (KdlSrc.rawDict hsys) (I.ok.hd hcalm) raw (by rw [hsz]; exact hz) fun h2 tk acc hk hacc => ⟨⟨_, Heap.get?_push_size _ rfl, rfl⟩, ?_⟩) fun ob s1 z => ⟨z.1, F.args_object_init_2 ob _, object_init_meets F.called_tuple.init.lookup F.called_tuple.made (by decide) _ _ X.A.in1 _ s1 ⟨z.1, rfl, z.2⟩⟩
  have hv : Vals (xs.map fun x => V.ref x.2.1) acc.toList := vals_refs (by rw [Array.length_toList, hacc.1]; exact hsz) fun j v e => hkey j v (hacc.2 j v (by rw [← Array.getElem?_toList]; exact e))
  have I1 : Inv X pins σ H { s with heap := h2, toks := tk } := I.kept (t' := tk) hk
  have eo : ({ cls := .type "tuple", data := .seq acc } : Obj) = tObj acc.toList := by unfold tObj; rw [Array.toArray_toList]
  rw [eo]
  exact ⟨.ref h2.objs.size, _, I1.laid (t' := tk) (a := h2.objs.size) (o := .frz (tObj acc.toList) (.tup (xs.map fun x => V.ref x.2.1))) (fun b o e => Heap.get?_push_of_some _ e) (Nat.le_refl _) (tObj_ok (by rw [List.length_map]; exact hz) hv), rfl, q xs rn hz _ _ (I1.hok.fresh (Nat.le_refl _)) rfl⟩
end
/-- the keys of a dict, as it stands at each turn -/
def ItN (P : Program) (w : World) (a : Addr) (ep : Nat) (xs : List (NestedKey × Addr × Value)) : It where
  go := fun i H => H a = some (dN P w a ep xs) ∧ i < xs.length
  yld := fun i H v H2 => H2 = H ∧ ∃ y, xs[i]? = some y ∧ v = .ref y.2.1
  stop := fun i H => H a = some (dN P w a ep xs) ∧ xs.length ≤ i
theorem dn_raw {P : Program} {w : World} {H : Hp} {h : Heap} {a : Addr} {ep : Nat} {xs : List (NestedKey × Addr × Value)} (ok : ObjOk P w H h a (dN P w a ep xs)) : ∃ es, h.DictRaw a es ep ∧ es.toList = xs.map (entryOfKey (nestedKind P w)) := by
  obtain ⟨⟨o, es, h1, h2, h3, h4⟩, _, _⟩ := ok
  exact ⟨es, ⟨o, h1, h2, h3⟩, h4⟩
theorem turn_dN {P : Program} {w : World} {K : PySem.W.Frag} {tg : Expr} {a it : Addr} {ep : Nat} {xs : List (NestedKey × Addr × Value)} : Turn P w K tg (ItN P w a ep xs) [it] it (fun i h => h.IsKeyIter it a i xs.length ep) where
  mem := by simp
  obj := fun i h ⟨oi, e, c, dd⟩ b hb => by
    rw [List.mem_singleton.mp hb]
    exact ⟨oi, e, fun v z => by rw [dd] at z; cases z⟩
  keep := fun i h h2 ⟨oi, e, r⟩ k => ⟨oi, k it (by simp) oi e, r⟩
  item := by
    intro X hP hw hK hc i pins s σ H E I hf hst hgo
    subst hP hw hK
    obtain ⟨hat, hi⟩ := hgo
    obtain ⟨es, raw, hes⟩ := dn_raw (I.hok a _ hat)
    have hsz := size_of_entries hes
    obtain ⟨f0, f1, f2, f3, f4, f5⟩ := hf it (by simp)
    rw [← hsz] at hst
    refine wpAny_pyNext_keys_item_raw hst raw (by omega) fun h2 st2 sb => ?_
    have I1 : Inv X pins σ H { s with heap := h2 } := I.turned (t' := s.toks) (fun b ob hb e => (sb.2 b hb).trans e) f0 f1 f3 f4 f5
    obtain ⟨oi, e, c, dd⟩ := id st2
    have hk : es[i]'(by omega) = entryOfKey (nestedKind X.prog X.w) xs[i] := by
      have h1 := entry_at hes i
      rw [Array.getElem?_eq_getElem (by omega), List.getElem?_eq_getElem hi] at h1
      injection h1
    refine ⟨_, rfl, go_of (s := { s with heap := h2 }) e c dd (by decide) ⟨.ref xs[i].2.1, H, I1, by rw [hk]; rfl, ⟨rfl, xs[i], List.getElem?_eq_getElem hi, rfl⟩, ?_, fun b hb => (hf b hb).1⟩⟩
    rw [← hsz]; exact st2
  done := by
    intro X hP hw hK hc i pins s σ H E I hf hst hgo
    subst hP hw hK
    obtain ⟨hat, hi⟩ := hgo
    obtain ⟨es, raw, hes⟩ := dn_raw (I.hok a _ hat)
    have hsz := size_of_entries hes
    obtain ⟨f0, f1, f2, f3, f4, f5⟩ := hf it (by simp)
    rw [← hsz] at hst
    exact wpAny_pyNext_keys_end_raw (I.ok.hd hc) hst raw (by omega) fun h2 eb => ⟨rfl, I.turned (t' := s.toks) (fun b ob hb e => eb b ob hb e) f0 f1 f3 f4 f5⟩
  self := fun A i s Q E hst q => wpAny_pyIter_keyiter hst q
theorem walk_dN {P : Program} {w : World} {a : Addr} {ep : Nat} {xs : List (NestedKey × Addr × Value)} : Walk (ItN P w a ep xs) xs.length (fun H => H a = some (dN P w a ep xs)) (fun i H v H2 => H2 = H ∧ ∃ y, xs[i]? = some y ∧ v = .ref y.2.1) :=
  ⟨fun i _ hi q => ⟨q, hi⟩, fun _ q => ⟨q, Nat.le_refl _⟩, fun _ _ _ _ _ _ y => y⟩
end BT
set_option Elab.async false
set_option linter.all false
set_option maxRecDepth 100000
set_option maxHeartbeats 4000000
/-! BTComp: what is walked; list comprehensions. -/
namespace BT
open PySem PySem.Spec PyProof.Rows L2

/-- kept: all (b), or all but the changing ones -/
def Kp (b : Bool) (bd : Addr → Prop) (H H' : Hp) : Prop := if b = true then Same H H' else Keep bd H H'
theorem Kp.of {b : Bool} {bd : Addr → Prop} {H H' : Hp} (h : Same H H') : Kp b bd H H' := by
  cases b with
  | true => exact h
  | false => exact Keep.of h
theorem Kp.at {b : Bool} {bd : Addr → Prop} {H H' : Hp} (k : Kp b bd H H') {a : Addr} {o : HO} (n : b = true ∨ ¬ bd a) (e : H a = some o) : H' a = some o := by
  cases b with
  | true => exact (show Same H H' from k) a o e
  | false => exact (show Keep bd H H' from k) a o (n.resolve_left (by decide)) e
theorem Kp.rep {b : Bool} {P : Program} {w : World} {bd : Addr → Prop} {H H' : Hp} (k : Kp b bd H H') {v : V} {d : D} (r : Rep P w H bd v d) : Rep P w H' bd v d := by
  cases b with
  | true => exact r.same k
  | false => exact Rep.go k (fun _ z => .inl z) d v r
theorem Kp.repL {b : Bool} {P : Program} {w : World} {bd : Addr → Prop} {H H' : Hp} (k : Kp b bd H H') {v : List V} {d : List D} (r : RepL P w H bd v d) : RepL P w H' bd v d := by
  cases b with
  | true => exact r.same k
  | false => exact RepL.go k (fun _ z => .inl z) d v r
/-- more may change: what was not there -/
def Grow (H0 : Hp) (bd bd' : Addr → Prop) : Prop := ∀ a, bd' a → bd a ∨ H0 a = none
theorem Grow.refl {H0 : Hp} {bd : Addr → Prop} : Grow H0 bd bd := fun _ z => .inl z
theorem Kp.keep {b : Bool} {bd : Addr → Prop} {H H' : Hp} (k : Kp b bd H H') : Keep bd H H' := by
  cases b with
  | true => exact Keep.of k
  | false => exact k
theorem Kp.repLG {b : Bool} {P : Program} {w : World} {bd bd' : Addr → Prop} {H H' : Hp} (k : Kp b bd H H') (gr : Grow H bd bd') {v : List V} {d : List D} (r : RepL P w H bd v d) : RepL P w H' bd' v d := RepL.go k.keep gr d v r
theorem Kp.repG {b : Bool} {P : Program} {w : World} {bd bd' : Addr → Prop} {H H' : Hp} (k : Kp b bd H H') (gr : Grow H bd bd') {v : V} {d : D} (r : Rep P w H bd v d) : Rep P w H' bd' v d := Rep.go k.keep gr d v r
/-- what a turn gives: data; where it is unpacked at once (lo), also a pair of its own -/
def RepI (P : Program) (w : World) (H : Hp) (bd : Addr → Prop) (lo : Bool) (v : V) (d : D) : Prop := Rep P w H bd v d ∨ (lo = true ∧ ∃ a vs ds, v = .ref a ∧ d = .tuple ds ∧ H a = some (.tup vs) ∧ RepL P w H bd vs ds)
structure ItOk (X : Cx) (b lo : Bool) (bd : Addr → Prop) (H0 : Hp) (J : It) (xs : List D) : Prop where
  ex : ∃ (G : Hp → Prop) (Y : Nat → Hp → V → Hp → Prop), Walk J xs.length G Y ∧ (∀ H, Kp b bd H0 H → G H) ∧
    ∀ bd', Grow H0 bd bd' → ∀ i H x H', i < xs.length → BadIn bd' H → Kp b bd H0 H → Y i H x H' → Same H H' ∧ ∃ d, xs[i]? = some d ∧ RepI X.prog X.w H' bd' lo x d
  len : xs.length ≤ sizeLine
/-- the reading of what is walked -/
def IR (X : Cx) (W : WishX) (lin : Lc) (b lo : Bool) (f : En → R (List D)) : TI := fun σ H R => ∃ bd r, BadIn bd H ∧ EnvOk X.prog X.w bd lin r σ H ∧
  match f r with
  | .ok xs => ∀ J H', Same H H' → ItOk X b lo bd H' J xs → R J H'
  | .exc c => ∀ H', Same H H' → W c σ H'
  | .bad => False
/-- iter(v), by values -/
def PItR (X : Cx) (tg : Expr) (rr : V → Hp → (It → Hp → Prop) → Prop) : Prop :=
  ∀ (pins : List (Addr × Obj)) (s : Shared) (σ : L2.St) (H : Hp) (x : V) (v : Value) (R : It → Hp → Prop), Inv X pins σ H s → RelV x v → rr x H R → wpAny (model X.prog X.w) X.A (pyIter v) (PIE X pins σ tg R) X.xe s
section
variable {X : Cx} {W : WishX} {lin : Lc} {tg : Expr}
theorem pi_imp {e : Expr} {t t' : TI} (h : PI X tg e t) (i : ∀ σ H Q, t' σ H Q → t σ H Q) : PI X tg e t' := ⟨fun pins s σ H Q I q => h.run pins s σ H Q I (i σ H Q q)⟩
def anyIt (X : Cx) (tg : Expr) : V → Hp → (It → Hp → Prop) → Prop := fun x H R => ∃ rr, PItR X tg rr ∧ rr x H R
theorem pi_val {e : Expr} {te : TE} (he : PE X e te) : PI X tg e (fun σ H R => te σ H fun x H1 => anyIt X tg x H1 R) := by
  refine ⟨fun pins s σ H R I h => ?_⟩
  refine thn (he.run pins s σ H _ I h) fun v s1 ⟨x, H1, I1, r1, rr, ho, q⟩ => ?_
  exact ho pins s1 σ H1 x v R I1 r1 q
theorem piv_list : PItR X tg (fun x H R => ∃ a xs, x = .ref a ∧ H a = some (.lst xs) ∧ R (Itl X.K a) H) := by
  intro pins s σ H x v R I rx h
  obtain ⟨a, xs, rfl, hq, q⟩ := h
  cases rx
  obtain ⟨its, rv, p, hz⟩ := I.list (SqL.of hq)
  refine wpAny_pyIter_list p.isList ?_
  refine ⟨s.heap.objs.size, [s.heap.objs.size], _, _, H, rfl, I.kept (t' := s.toks) fun b o e => Heap.get?_push_of_some _ e, turn_list a _, ⟨_, Heap.get?_push_size _ rfl, rfl, rfl⟩, fun b hb => ?_, q⟩
  have e : b = s.heap.objs.size := by simpa using hb
  subst e
  exact I.fpOk (Nat.le_refl _) (I.hok.fresh (Nat.le_refl _))
theorem piv_tup : PItR X tg (fun x H R => ∃ a xs, x = .ref a ∧ TupAt H a xs ∧ R (Itt X.K a) H) := by
  intro pins s σ H x v R I rx h
  obtain ⟨a, xs, rfl, hq, q⟩ := h
  cases rx
  obtain ⟨its, rv, p, hz⟩ := I.tuple hq.sq
  refine wpAny_pyIter_tuple (show s.heap.IsTuple a its.toArray from p) ?_
  refine ⟨s.heap.objs.size, [s.heap.objs.size], _, _, H, rfl, I.kept (t' := s.toks) fun b o e => Heap.get?_push_of_some _ e, turn_tuple a _, ⟨_, Heap.get?_push_size _ rfl, rfl, rfl⟩, fun b hb => ?_, q⟩
  have e : b = s.heap.objs.size := by simpa using hb
  subst e
  exact I.fpOk (Nat.le_refl _) (I.hok.fresh (Nat.le_refl _))
theorem piv_str : PItR X tg (fun x H R => ∃ z, x = .str z ∧ R (Its z) H) := by
  intro pins s σ H x v R I rx h
  obtain ⟨z, rfl, q⟩ := h
  obtain ⟨t, rfl⟩ := rx
  cases ha : z.cps.all (· < 128)
  · exact wpAny_pyIter_wide ha (pi_one (tk := s.toks) I _ (turn_str _ z t "str_iterator" (.inr rfl)) ⟨_, Heap.get?_push_size _ rfl, rfl, rfl⟩ q)
  · exact wpAny_pyIter_ascii ha (pi_one (tk := s.toks) I _ (turn_str _ z t "str_ascii_iterator" (.inl rfl)) ⟨_, Heap.get?_push_size _ rfl, rfl, rfl⟩ q)
theorem itOk_list {b lo : Bool} {bd : Addr → Prop} {H : Hp} {a : Addr} {vs : List V} {ds : List D} (ra : H a = some (.lst vs)) (hn : b = true ∨ ¬ bd a) (l : vs.length ≤ sizeLine) (t : RepL X.prog X.w H bd vs ds) : ItOk X b lo bd H (Itl X.K a) ds where
  ex := by
    refine ⟨fun H' => SqL X.K H' a vs, YAt vs, ?_, fun H' k => SqL.of (k.at hn ra), fun bd' gr i H' x H3 hi hb k y => ?_⟩
    · rw [← t.length]; exact walk_list
    · obtain ⟨rfl, e⟩ := y
      refine ⟨Same.refl _, ?_⟩
      obtain ⟨d, e1, r⟩ := (k.repLG gr t).get e
      exact ⟨d, e1, .inl r⟩
  len := by rw [← t.length]; exact l
theorem itOk_tup {b lo : Bool} {bd : Addr → Prop} {H : Hp} {a : Addr} {vs : List V} {ds : List D} (ra : TupAt H a vs) (hn : b = true ∨ ¬ bd a) (l : vs.length ≤ sizeLine) (t : RepL X.prog X.w H bd vs ds) : ItOk X b lo bd H (Itt X.K a) ds where
  ex := by
    refine ⟨fun H' => SqT X.K H' a vs, YAt vs, ?_, fun H' k => (ra.at fun _ => k.at hn).sq, fun bd' gr i H' x H3 hi hb k y => ?_⟩
    · rw [← t.length]; exact walk_tup
    · obtain ⟨rfl, e⟩ := y
      refine ⟨Same.refl _, ?_⟩
      obtain ⟨d, e1, r⟩ := (k.repLG gr t).get e
      exact ⟨d, e1, .inl r⟩
  len := by rw [← t.length]; exact l
theorem itOk_str {b lo : Bool} {bd : Addr → Prop} {H : Hp} {z : Str} (o : OkS z) : ItOk X b lo bd H (Its z) (charsOf z) where
  ex := by
    refine ⟨fun _ => True, (fun i H v H' => H' = H ∧ ∃ c, z.cps[i]? = some c ∧ v = .str ⟨#[c]⟩), ?_, fun _ _ => trivial, fun bd' gr i H' x H3 hi hb k y => ?_⟩
    · have e : (charsOf z).length = z.cps.size := by simp [charsOf]
      rw [e]; exact walk_str
    · obtain ⟨rfl, c, e, rfl⟩ := y
      refine ⟨Same.refl _, .str ⟨#[c]⟩, ?_, .inl (.str (okS_char o ?_))⟩
      · simp [charsOf, e]
      · exact Array.mem_toList_iff.mpr (Array.mem_of_getElem? e)
  len := by
    have e : (charsOf z).length = z.length := by simp [charsOf, Str.length]
    rw [e]; exact o.1
theorem piv_dN : PItR X tg (fun x H R => ∃ a ep xs, x = .ref a ∧ H a = some (dN X.prog X.w a ep xs) ∧ (a == sysModules) = false ∧ R (ItN X.prog X.w a ep xs) H) := by
  intro pins s σ H x v R I rx h
  obtain ⟨a, ep, xs, rfl, hat, hsys, q⟩ := h
  cases rx
  obtain ⟨es, raw, hes⟩ := dn_raw (I.hok a _ hat)
  have hsz := size_of_entries hes
  refine wpAny_pyIter_dict_raw hsys raw (pi_one (tk := s.toks) I _ turn_dN ⟨_, Heap.get?_push_size _ rfl, rfl, ?_⟩ q)
  rw [hsz]; rfl
theorem itOk_dN {b lo : Bool} {bd : Addr → Prop} {H : Hp} {a : Addr} {ep : Nat} {xs : List (NestedKey × Addr × Value)} {ds : List (D × D)} (ra : H a = some (dN X.prog X.w a ep xs)) (hn : b = true ∨ ¬ bd a) (l : xs.length ≤ sizeLine) (t : RepN X.prog X.w H bd xs ds) : ItOk X b lo bd H (ItN X.prog X.w a ep xs) (keysOf ds) where
  ex := by
    have hl := t.keys.length
    rw [List.length_map] at hl
    refine ⟨fun H' => H' a = some (dN X.prog X.w a ep xs), _, by rw [← hl]; exact walk_dN, fun H' k => k.at hn ra, fun bd' gr i H' x H3 hi hb k y => ?_⟩
    obtain ⟨rfl, z, e, rfl⟩ := y
    refine ⟨Same.refl _, ?_⟩
    obtain ⟨d, e1, r⟩ := (k.repLG gr t.keys).get (i := i) (v := .ref z.2.1) (by rw [List.getElem?_map, e]; rfl)
    exact ⟨d, e1, .inl r⟩
  len := by
    have hl := t.keys.length
    rw [List.length_map] at hl
    rw [← hl]; exact l
theorem itemsP_noexc {d : D} {c : Str} : itemsP d ≠ .exc c := by cases d <;> (intro z; cases z)
/-- a list, a tuple, a text -/
theorem it_any {b lo : Bool} {bd : Addr → Prop} {x : V} {d : D} {xs : List D} {H : Hp} {R : It → Hp → Prop} (e : itemsP d = .ok xs) (hd : noDict d = true) (r : RepX X.prog X.w H bd b x d) (q : ∀ J H', Same H H' → ItOk X b lo bd H' J xs → R J H') : anyIt X tg x H R := by
  cases d with
  | list ys =>
    injection e with e; subst e
    cases b with
    | true =>
      obtain ⟨a, vs, rfl, ra, la, ta⟩ := r.t.listI
      exact ⟨_, piv_list, a, vs, rfl, ra, q _ H (Same.refl _) (itOk_list ra (.inl rfl) la ta)⟩
    | false =>
      cases (show Rep X.prog X.w H bd x (.list ys) from r) with
      | lst n ra la ta => exact ⟨_, piv_list, _, _, rfl, ra, q _ H (Same.refl _) (itOk_list ra (.inr n) la ta)⟩
  | tuple ys =>
    injection e with e; subst e
    obtain ⟨a, vs, rfl, na, ra, la, ta⟩ := r.t.tupI
    exact ⟨_, piv_tup, a, vs, rfl, ra, q _ H (Same.refl _) (itOk_tup ra (.inr na) la ta)⟩
  | str z =>
    injection e with e; subst e
    obtain ⟨rfl, o⟩ := r.t.strI
    exact ⟨_, piv_str, z, rfl, q _ H (Same.refl _) (itOk_str o)⟩
  | dict kvs =>
    injection e with e; subst e
    have hd : (!kvs.isEmpty && kvs.all fun kv => isTupD kv.1) = true := hd
    rw [Bool.and_eq_true, Bool.not_eq_true'] at hd
    have key : ∀ {a : Addr} {ep : Nat} {zs : List (NestedKey × Addr × Value)}, x = .ref a → H a = some (dN X.prog X.w a ep zs) → (b = true ∨ ¬ bd a) → zs.length ≤ sizeLine → (a == sysModules) = false → RepN X.prog X.w H bd zs kvs → anyIt X tg x H R := fun {a ep zs} ex ra hn l hs t =>
      ⟨_, piv_dN, a, ep, zs, ex, ra, hs, q _ H (Same.refl _) (itOk_dN ra hn l t)⟩
    have nK : ∀ {ks : List (Key × V)}, RepK X.prog X.w H bd ks kvs → False := fun {ks} t => by
      cases t with
      | nil => simp at hd
      | cons o r t => simp [isTupD] at hd
    cases b with
    | true =>
      obtain ⟨a, rfl, hh⟩ := r.t.dictI
      rcases hh with ⟨ks, h1, h2, h3⟩ | ⟨ep, zs, h1, h2, h3, h4, h5, h6⟩
      · exact (nK h3).elim
      · exact key rfl h1 (.inl rfl) h2 h3 h6
    | false =>
      cases (show Rep X.prog X.w H bd x (.dict kvs) from r) with
      | dK n ra la ta => exact (nK ta).elim
      | dN n ra la z ne nd ta => exact key rfl ra (.inr n) la z ta
  | _ => cases e
theorem i_plain {e : Expr} {b lo : Bool} {f : En → R D} (he : PE X e (ER X W lin b f)) : PI X tg e (IR X W lin b lo fun r => (f r).bind fun d => .gd (noDict d) (itemsP d)) := by
  refine pi_imp (pi_val he) fun σ H Q h => ?_
  obtain ⟨bd, r, hb, hen, q⟩ := h
  refine ⟨bd, r, hb, hen, ?_⟩
  cases e1 : f r with
  | bad => simp only [e1, R.bind_bad] at q
  | exc c => simp only [e1, R.bind_exc] at q; exact q
  | ok d =>
    simp only [e1, R.bind_ok] at q
    intro v H1 s1 rv
    cases e2 : R.gd (noDict d) (itemsP d) with
    | bad => simp only [e2] at q
    | exc c => exact (itemsP_noexc (gd_exc e2)).elim
    | ok xs =>
      simp only [e2] at q
      obtain ⟨e3, e4⟩ := gd_ok e2
      exact it_any e4 e3 rv fun J H2 s2 ok => q J H2 (s1.trans s2) ok
theorem itOk_range {b lo' : Bool} {bd : Addr → Prop} {H : Hp} {lo : Int} {n : Nat} (hn : n ≤ sizeLine) : ItOk X b lo' bd H (Itr lo n) ((List.range n).map fun (k : Nat) => .int (lo + (k : Int))) where
  ex := by
    refine ⟨fun _ => True, YFn fun i => .int (lo + i), ?_, fun _ _ => trivial, fun bd' gr i H' x H3 hi hb k y => ?_⟩
    · simpa using walk_range
    · obtain ⟨rfl, rfl⟩ := y
      refine ⟨Same.refl _, .int (lo + i), ?_, .inl (.int _)⟩
      have hi' : i < n := by simpa using hi
      simp [List.getElem?_range hi']
  len := by simpa using hn
theorem i_range1 {a : Expr} {p pos : Pos} {g : En → R (List D)} (hg : Gl X "range") (hm : X.mg "range" = none) (ha : PA X [a] (ARt X W lin g)) (hs : starEach [a] X.env = [(false, eval a X.env)]) (b lo : Bool) :
    PI X tg (.Call (.Name "range" p) [a] [] pos) (IR X W lin b lo fun r => (g r).bind (itemsF .range1)) := by
  refine pi_imp (pi_range1 hg hm ha hs) fun σ H Q h => ?_
  obtain ⟨bd, r, hb, hen, q⟩ := h
  refine ⟨bd, r, hb, hen, ?_⟩
  cases e1 : g r with
  | bad => simp only [e1, R.bind_bad] at q
  | exc c => simp only [e1, R.bind_exc] at q; exact q
  | ok ds =>
    simp only [e1, R.bind_ok] at q
    intro vs H1 s1 rs
    match ds, rs, q with
    | [.int n], rs, q =>
      obtain ⟨v, rfl, rv⟩ := tl1 rs
      cases e2 : itemsF .range1 [.int n] with
      | bad => simp only [e2] at q
      | exc c => have := gd_exc (show R.gd _ _ = _ from e2); cases this
      | ok xs =>
        simp only [e2] at q
        obtain ⟨e3, e4⟩ := gd_ok (show R.gd _ _ = _ from e2)
        injection e4 with e4; subst e4
        obtain ⟨h1, h2⟩ := of_decide_eq_true e3
        refine ⟨n, by rw [rv.intI], by omega, by omega, q _ H1 s1 ?_⟩
        have := itOk_range (X := X) (b := b) (lo' := lo) (bd := bd) (H := H1) (lo := 0) (n := n.toNat) (by rw [sizeLine_eq]; omega)
        simpa using this
theorem i_range2 {a a2 : Expr} {p pos : Pos} {g : En → R (List D)} (hg : Gl X "range") (hm : X.mg "range" = none) (ha : PA X [a, a2] (ARt X W lin g)) (hs : starEach [a, a2] X.env = [(false, eval a X.env), (false, eval a2 X.env)]) (hs2 : starEach [a2] X.env = [(false, eval a2 X.env)]) (b lo : Bool) :
    PI X tg (.Call (.Name "range" p) [a, a2] [] pos) (IR X W lin b lo fun r => (g r).bind (itemsF .range2)) := by
  refine pi_imp (pi_range2 hg hm ha hs hs2) fun σ H Q h => ?_
  obtain ⟨bd, r, hb, hen, q⟩ := h
  refine ⟨bd, r, hb, hen, ?_⟩
  cases e1 : g r with
  | bad => simp only [e1, R.bind_bad] at q
  | exc c => simp only [e1, R.bind_exc] at q; exact q
  | ok ds =>
    simp only [e1, R.bind_ok] at q
    intro vs H1 s1 rs
    match ds, rs, q with
    | [.int n, .int m], rs, q =>
      obtain ⟨v, u, rfl, rv, ru⟩ := tl2 rs
      cases e2 : itemsF .range2 [.int n, .int m] with
      | bad => simp only [e2] at q
      | exc c => have := gd_exc (show R.gd _ _ = _ from e2); cases this
      | ok xs =>
        simp only [e2] at q
        obtain ⟨e3, e4⟩ := gd_ok (show R.gd _ _ = _ from e2)
        injection e4 with e4; subst e4
        obtain ⟨h1, h2, h3, h4⟩ := of_decide_eq_true e3
        exact ⟨n, m, by rw [rv.intI, ru.intI], ⟨by omega, by omega, by omega, by omega⟩, q _ H1 s1 (itOk_range (by rw [sizeLine_eq]; omega))⟩

/-! ### targets -/
def gNames : List Nat → TGs
  | [] => gNil
  | i :: is => gCons (gName i) (gNames is)
def gOf (K : PySem.W.Frag) : Tg → TG
  | .name i => gName i
  | .tup is => gTup K is.length (gNames is)
  | .nest i is => gTup K 2 (gCons (gName i) (gCons (gTup K is.length (gNames is)) gNil))
/-- the slots of a target -/
def Tg.slots : Tg → List Nat
  | .name i => [i]
  | .tup is => is
  | .nest i is => i :: is
def Tg.isT : Tg → Bool
  | .name _ => false
  | .tup _ => true
  | .nest _ _ => true
def setAllS : List Nat → List V → L2.St → L2.St
  | i :: is, v :: vs, σ => setAllS is vs (σ.set i (some v))
  | _, _, σ => σ
theorem gNames_of : ∀ {is : List Nat} {vs : List V} {σ : L2.St} {H : Hp} {Q : L2.St → Hp → Prop}, is.length = vs.length → Q (setAllS is vs σ) H → gNames is vs σ H Q
  | [], [], _, _, _, _, h => ⟨rfl, h⟩
  | [], _ :: _, _, _, _, e, _ => by cases e
  | _ :: _, [], _, _, _, e, _ => by cases e
  | i :: is, v :: vs, σ, H, Q, e, h => ⟨v, vs, rfl, gNames_of (is := is) (vs := vs) (by simpa using e) h⟩
theorem put_get {r : En} {i j : Nat} {d e : D} (h : (put r i d)[j]? = some (some e)) : (j = i ∧ e = d) ∨ (j ≠ i ∧ r[j]? = some (some e)) := by
  unfold put at h
  by_cases hj : j = i
  · subst hj
    by_cases hl : j < r.length
    · rw [List.getElem?_set_self hl] at h
      injection h with h; injection h with h
      exact .inl ⟨rfl, h.symm⟩
    · rw [List.getElem?_eq_none (by simpa using hl)] at h; cases h
  · rw [List.getElem?_set_ne (Ne.symm hj)] at h
    exact .inr ⟨hj, h⟩
/-- one slot is stored -/
theorem EnvOk.put {P : Program} {w : World} {bd : Addr → Prop} {r : En} {σ : L2.St} {H : Hp} {i : Nat} {v : V} {d : D} (h : EnvOk P w bd lin r σ H) (hi : i < σ.length) (hn : i ∉ lin.lin) (hs : ∀ j ns, lin.scr = some (j, ns) → j ≠ i) (rv : Rep P w H bd v d) : EnvOk P w bd lin (put r i d) (σ.set i (some v)) H where
  vals := fun j e he => by
    rcases put_get he with ⟨rfl, rfl⟩ | ⟨hj, he⟩
    · exact ⟨v, List.getElem?_set_self hi, RepX.of rv⟩
    · obtain ⟨v', e1, r1⟩ := h.vals j e he
      exact ⟨v', by rw [List.getElem?_set_ne (Ne.symm hj)]; exact e1, r1⟩
  scr := fun j ns e => by
    obtain ⟨a, o, e1, h1⟩ := h.scr j ns e
    exact ⟨a, o, by rw [List.getElem?_set_ne (Ne.symm (hs j ns e))]; exact e1, h1⟩
theorem EnvOk.putAll {P : Program} {w : World} {bd : Addr → Prop} {H : Hp} : ∀ {is : List Nat} {vs : List V} {ds : List D} {r : En} {σ : L2.St}, EnvOk P w bd lin r σ H → (∀ i ∈ is, i < σ.length ∧ i ∉ lin.lin ∧ ∀ j ns, lin.scr = some (j, ns) → j ≠ i) → is.length = ds.length → RepL P w H bd vs ds → EnvOk P w bd lin (putAll is ds r) (setAllS is vs σ) H
  | [], vs, ds, r, σ, h, _, e, rs => by
    cases ds with
    | nil => cases rs; exact h
    | cons _ _ => cases e
  | i :: is, vs, [], r, σ, h, _, e, rs => by cases e
  | i :: is, vs, d :: ds, r, σ, h, hi, e, rs => by
    cases rs with
    | cons a t =>
      obtain ⟨h1, h2, h3⟩ := hi i (.head _)
      exact EnvOk.putAll (is := is) (h.put h1 h2 h3 a) (fun j hj => by rw [List.length_set]; exact hi j (.tail _ hj)) (by simpa using e) t
theorem setAllS_len : ∀ (is : List Nat) (vs : List V) (σ : L2.St), (setAllS is vs σ).length = σ.length
  | [], _, _ => rfl
  | _ :: _, [], _ => rfl
  | i :: is, v :: vs, σ => by rw [setAllS, setAllS_len is vs]; simp
/-- the slots may be stored -/
structure SlotsOk (X : Cx) (lin : Lc) (is : List Nat) (σ : L2.St) : Prop where
  ok : ∀ i ∈ is, i < σ.length ∧ i ∉ lin.lin ∧ ∀ j ns, lin.scr = some (j, ns) → j ≠ i
/-- a target takes a value -/
theorem asg_noexc {t : Tg} {d : D} {r : En} {c : Str} (e : asg t d r = .exc c) : False := by
  unfold asg at e
  split at e
  · cases e
  · split at e <;> cases e
  · cases e
  · split at e <;> cases e
  · cases e
theorem asg_nest {i : Nat} {is : List Nat} {d : D} {r r1 : En} (e : asg (.nest i is) d r = .ok r1) : ∃ x ds, d = .tuple [x, .tuple ds] ∧ is.length = ds.length ∧ r1 = BT.putAll is ds (BT.put r i x) := by
  match d, e with
  | .tuple [x, .tuple ds], e =>
    have e : (if is.length = ds.length then R.ok (BT.putAll is ds (BT.put r i x)) else .bad) = .ok r1 := e
    by_cases hl : is.length = ds.length
    · rw [if_pos hl] at e; injection e with e
      exact ⟨x, ds, rfl, hl, e.symm⟩
    · rw [if_neg hl] at e; cases e
theorem g_asg {K : PySem.W.Frag} {bd : Addr → Prop} {t : Tg} {d : D} {r r1 : En} {σ : L2.St} {H : Hp} {v : V} {Q : L2.St → Hp → Prop} (e : asg t d r = .ok r1) (hen : EnvOk X.prog X.w bd lin r σ H) (hs : SlotsOk X lin t.slots σ) (rv : RepI X.prog X.w H bd t.isT v d)
    (q : ∀ σ1, EnvOk X.prog X.w bd lin r1 σ1 H → (∃ vs, σ1 = setAllS t.slots vs σ) → Q σ1 H) : gOf K t v σ H Q := by
  cases t with
  | name i =>
    injection e with e; subst e
    obtain ⟨h1, h2, h3⟩ := hs.ok i (.head _)
    rcases rv with rv | ⟨z, _⟩
    · exact q _ (hen.put h1 h2 h3 rv) ⟨[v], rfl⟩
    · cases z
  | tup is =>
    cases d with
    | tuple ds =>
      have e : (if is.length = ds.length then R.ok (BT.putAll is ds r) else R.bad) = .ok r1 := e
      by_cases hl : is.length = ds.length
      · rw [if_pos hl] at e
        injection e with e; subst e
        rcases rv with rv | ⟨_, a, vs, ds', rfl, e2, ra, ta⟩
        · cases rv with
          | tup n ra la ta =>
            rename_i a vs
            have hl2 : is.length = vs.length := by rw [ta.length]; exact hl
            exact ⟨a, vs, rfl, ra.sq, hl2.symm, gNames_of hl2 (q _ (hen.putAll hs.ok hl ta) ⟨vs, rfl⟩)⟩
        · cases e2
          have hl2 : is.length = vs.length := by rw [ta.length]; exact hl
          exact ⟨a, vs, rfl, SqT.of ra, hl2.symm, gNames_of hl2 (q _ (hen.putAll hs.ok hl ta) ⟨vs, rfl⟩)⟩
      · rw [if_neg hl] at e; cases e
    | _ => cases e
  | nest i is =>
    obtain ⟨x, ds, rfl, hl, rfl⟩ := asg_nest e
    have fin : ∀ (p : Addr) (vs : List V), v = .ref p → SqT K H p vs → RepL X.prog X.w H bd vs [x, .tuple ds] → gOf K (.nest i is) v σ H Q := fun p vs ev sq ta => by
      cases ta with
      | cons r1 ta =>
        cases ta with
        | cons r2 ta =>
          cases ta
          cases r2 with
          | tup n ra la ta =>
            rename_i va b us
            have hl2 : is.length = us.length := by rw [ta.length]; exact hl
            refine ⟨p, [va, .ref b], ev, sq, rfl, va, [.ref b], rfl, .ref b, [], rfl, b, us, rfl, ra.sq, hl2.symm, gNames_of hl2 ⟨rfl, ?_⟩⟩
            exact q _ (hen.putAll (is := i :: is) (vs := va :: us) (ds := x :: ds) hs.ok (by simp [hl]) (.cons r1 ta)) ⟨va :: us, rfl⟩
    rcases rv with rv | ⟨_, p, vs, ds', rfl, e2, ra, ta⟩
    · cases rv with
      | tup n ra la ta => exact fin _ _ rfl ra.sq ta
    · cases e2
      exact fin p vs rfl (SqT.of ra) ta
theorem wipe_get {σ : L2.St} {j : Nat} : ∀ {vs : List Nat}, (wipe σ vs)[j]? = if j ∈ vs then (σ[j]?).map (fun _ => none) else σ[j]?
  | [] => by simp [wipe]
  | v :: vs => by
    unfold wipe
    by_cases hj : j = v
    · subst hj
      rw [if_pos (.head _)]
      by_cases hl : j < σ.length
      · rw [List.getElem?_set_self (by rw [wipe_length]; exact hl), List.getElem?_eq_getElem hl]; rfl
      · rw [List.getElem?_eq_none (by rw [List.length_set, wipe_length]; omega), List.getElem?_eq_none (by omega)]; rfl
    · rw [List.getElem?_set_ne (Ne.symm hj), wipe_get (vs := vs)]
      by_cases hm : j ∈ vs
      · rw [if_pos hm, if_pos (.tail _ hm)]
      · rw [if_neg hm, if_neg (by simp [hj, hm])]
theorem wipe_set {σ : L2.St} {vs : List Nat} {i : Nat} {x : Option V} (h : i ∈ vs) : wipe (σ.set i x) vs = wipe σ vs := by
  apply List.ext_getElem?
  intro j
  rw [wipe_get, wipe_get]
  by_cases hj : j = i
  · subst hj
    rw [if_pos h, if_pos h]
    by_cases hl : j < σ.length
    · rw [List.getElem?_set_self hl, List.getElem?_eq_getElem hl]; rfl
    · rw [List.getElem?_eq_none (by simpa using hl), List.getElem?_eq_none (by omega)]
  · rw [List.getElem?_set_ne (Ne.symm hj)]
theorem wipe_setAll : ∀ {is : List Nat} {us : List V} {σ : L2.St} {vs : List Nat}, (∀ i ∈ is, i ∈ vs) → wipe (setAllS is us σ) vs = wipe σ vs
  | [], _, _, _, _ => rfl
  | _ :: _, [], _, _, _ => rfl
  | i :: is, u :: us, σ, vs, h => by
    rw [setAllS, wipe_setAll (is := is) fun j hj => h j (.tail _ hj), wipe_set (h i (.head _))]
theorem wipe_wipe {σ : L2.St} {vs : List Nat} : wipe (wipe σ vs) vs = wipe σ vs := by
  apply List.ext_getElem?
  intro j
  rw [wipe_get, wipe_get]
  by_cases h : j ∈ vs
  · rw [if_pos h, if_pos h]; cases σ[j]? <;> rfl
  · rw [if_neg h]
theorem wipeE_get {r : En} {j : Nat} {d : D} : ∀ {vs : List Nat}, (wipeE r vs)[j]? = some (some d) → j ∉ vs ∧ r[j]? = some (some d)
  | [], h => ⟨by simp, h⟩
  | v :: vs, h => by
    unfold wipeE at h
    by_cases hj : j = v
    · subst hj
      by_cases hl : j < (wipeE r vs).length
      · rw [List.getElem?_set_self hl] at h; cases h
      · rw [List.getElem?_eq_none (by simpa using hl)] at h; cases h
    · rw [List.getElem?_set_ne (Ne.symm hj)] at h
      obtain ⟨h1, h2⟩ := wipeE_get h
      exact ⟨by simp [hj, h1], h2⟩
theorem EnvOk.wipe {P : Program} {w : World} {bd : Addr → Prop} {r : En} {σ : L2.St} {H : Hp} {vs : List Nat} (h : EnvOk P w bd lin r σ H) (hs : ∀ j ns, lin.scr = some (j, ns) → j ∉ vs) : EnvOk P w bd lin (wipeE r vs) (L2.wipe σ vs) H where
  vals := fun j e he => by
    obtain ⟨h1, h2⟩ := wipeE_get he
    obtain ⟨v, e1, r1⟩ := h.vals j e h2
    exact ⟨v, by rw [wipe_get, if_neg h1]; exact e1, r1⟩
  scr := fun j ns e => by
    obtain ⟨a, o, e1, h1⟩ := h.scr j ns e
    exact ⟨a, o, by rw [wipe_get, if_neg (hs j ns e)]; exact e1, h1⟩
/-- .. under other changing ones -/
theorem EnvOk.go {P : Program} {w : World} {bd bd' : Addr → Prop} {r : En} {σ : L2.St} {H H' : Hp} (h : EnvOk P w bd lin r σ H) (s : Same H H') (hb : Grow H bd bd') : EnvOk P w bd' lin r σ H' where
  vals := fun j e he => by
    obtain ⟨v, e1, r1⟩ := h.vals j e he
    refine ⟨v, e1, ?_⟩
    generalize decide (j ∈ lin.lin) = b at r1
    cases b with
    | false => exact Rep.go (Keep.of s) hb _ _ r1
    | true =>
      cases (show RepT P w H bd v e from r1) with
      | of q => exact RepT.of (Rep.go (Keep.of s) hb _ _ q)
      | lst ra la ta => exact RepT.lst (s _ _ ra) la (RepL.go (Keep.of s) hb _ _ ta)
      | dK ra la ta => exact RepT.dK (s _ _ ra) la (RepK.go (Keep.of s) hb _ _ ta)
      | dN ra la z ne nd ta => exact RepT.dN (s _ _ ra) la z ne nd (RepN.go (Keep.of s) hb _ _ ta)
  scr := fun j ns e => by
    obtain ⟨a, o, e1, h1⟩ := h.scr j ns e
    exact ⟨a, o, e1, h1.imp id fun z => ⟨z.1, s _ _ z.2⟩⟩
theorem lcN_at {f : D → R (Option D)} : ∀ {xs ys : List D} {i : Nat} {x : D}, lcN f xs = .ok ys → xs[i]? = some x → ∃ o, f x = .ok o
  | [], _, _, _, _, e => by simp at e
  | z :: zs, ys, i, x, h, e => by
    obtain ⟨o, h1, h2⟩ := bind_okI (show (f z).calm.bind _ = .ok ys from h)
    have hz : f z = .ok o := by cases q : f z <;> rw [q] at h1 <;> first | exact h1 | cases h1
    obtain ⟨us, h3, h4⟩ := bind_okI h2
    cases i with
    | zero => simp at e; subst e; exact ⟨o, hz⟩
    | succ i => exact lcN_at h3 (by simpa using e)
theorem lcN_snoc {f : D → R (Option D)} : ∀ {xs acc : List D} {x : D} {o : Option D}, lcN f xs = .ok acc → f x = .ok o → lcN f (xs ++ [x]) = .ok (acc ++ o.toList)
  | [], acc, x, o, h, e => by
    injection h with h; subst h
    show (f x).calm.bind _ = _
    rw [e]
    cases o <;> rfl
  | z :: zs, acc, x, o, h, e => by
    obtain ⟨o1, h1, h2⟩ := bind_okI (show (f z).calm.bind _ = .ok acc from h)
    obtain ⟨us, h3, h4⟩ := bind_okI h2
    injection h4 with h4; subst h4
    have h5 := lcN_snoc h3 e
    show (f z).calm.bind (fun o => (lcN f (zs ++ [x])).bind fun ys => .ok (match o with | some y => y :: ys | none => ys)) = _
    rw [h1, R.bind_ok, h5]
    cases o1 <;> rfl

/-! ### list comprehensions -/
/-- the turn of a comprehension -/
def lcTurn (own : List Nat) (t : Tg) (fc : En → R Bool) (fe : En → R D) (r : En) (x : D) : R (Option D) :=
  (asg t x (wipeE r own)).bind fun r1 => (fc r1).bind fun k => if k then (fe r1).bind fun y => .ok (some y) else .ok none
theorem er_lc {own : List Nat} {t : Tg} {fi : En → R (List D)} {fc : En → R Bool} {fe : En → R D} {σ : L2.St} {H : Hp} {Q : VK} (hown : ∀ i ∈ t.slots, i ∈ own) (hslots : ∀ i ∈ t.slots, i < σ.length ∧ i ∉ lin.lin ∧ ∀ j ns, lin.scr = some (j, ns) → j ≠ i) (hscr : ∀ j ns, lin.scr = some (j, ns) → j ∉ own)
    (h : ER X W lin false (fun r => (fi r).bind fun xs => (lcN (lcTurn own t fc fe r) xs).bind fun ys => .ok (.list ys)) σ H Q) :
    tLc (IR X W lin true t.isT fi) (gOf X.K t) (TR X (fun _ _ _ => False) lin fc) (ER X (fun _ _ _ => False) lin false fe) own σ H Q := by
  obtain ⟨bd, r, hb, hen, q⟩ := h
  refine ⟨bd, r, hb, hen, ?_⟩
  cases e1 : fi r with
  | bad => simp only [e1, R.bind_bad] at q
  | exc c => simp only [e1, R.bind_exc] at q; exact q
  | ok xs =>
    simp only [e1, R.bind_ok] at q
    intro J H1 s1 ok D hD
    cases e2 : lcN (lcTurn own t fc fe r) xs with
    | bad => simp only [e2, R.bind_bad] at q
    | exc c =>
      exfalso
      have : ∀ (f : BT.D → R (Option BT.D)) (xs : List BT.D) (c : Str), lcN f xs ≠ .exc c := fun f xs => by
        induction xs with
        | nil => intro c z; cases z
        | cons x xs ih =>
          intro c z
          rcases bind_excI (show (f x).calm.bind _ = .exc c from z) with h | ⟨a, h1, h2⟩
          · cases q : f x <;> rw [q] at h <;> cases h
          · rcases bind_excI h2 with h | ⟨a, h1, h2⟩
            · exact ih c h
            · cases h2
      exact this _ _ _ e2
    | ok ys =>
      simp only [e2, R.bind_ok] at q
      obtain ⟨G, Y, wk, g1, hG⟩ := ok.ex
      let bd' : Addr → Prop := fun a => bd a ∨ a = D
      have gr : Grow H1 bd bd' := fun a z => z.imp id fun e => by rw [e]; exact hD
      have g2 := hG bd' gr
      have hb1 : BadIn bd H1 := hb.same s1
      have hen1 : EnvOk X.prog X.w bd' lin r σ H1 := (hen.same s1).go (Same.refl _) gr
      refine lc_it wk (fun i H2 => Same H1 H2 ∧ ∃ (aV : List V) (acc : List BT.D), H2 D = some (.lst aV) ∧ lcN (lcTurn own t fc fe r) (xs.take i) = .ok acc ∧ RepL X.prog X.w H2 bd' aV acc ∧ aV.length ≤ i) ?_ ?_ ?_ ?_
      · exact ⟨same_upd hD, [], [], upd_same, by simp [lcN], .nil, Nat.le_refl _⟩
      · intro i H2 hi p
        exact g1 H2 (Kp.of p.1)
      · intro i x H2 H3 hi p y
        obtain ⟨s2, aV, acc, hDa, hacc, hrep, hlen⟩ := p
        have hbH2 : BadIn bd' H2 := fun a z => by
          rcases z with z | z
          · exact hb1.same s2 a z
          · rw [z, hDa]; intro q; cases q
        obtain ⟨s3, d, hd, rx⟩ := g2 i H2 x H3 hi hbH2 (Kp.of s2) y
        obtain ⟨o, ho⟩ := lcN_at e2 hd
        have hbH3 := hbH2.same s3
        have hen3 : EnvOk X.prog X.w bd' lin r σ H3 := (hen1.same s2).same s3
        have henw := hen3.wipe (vs := own) hscr
        obtain ⟨r1, ha, ho2⟩ := bind_okI (show (asg t d (wipeE r own)).bind _ = .ok o from ho)
        refine g_asg (X := X) ha henw ⟨fun i hi => by rw [wipe_length]; exact hslots i hi⟩ rx fun σ1 hen4 hσ => ?_
        obtain ⟨us, rfl⟩ := hσ
        refine ⟨by rw [wipe_setAll hown, wipe_wipe], bd', r1, hbH3, hen4, ?_⟩
        obtain ⟨k, hk, ho3⟩ := bind_okI ho2
        simp only [hk]
        intro H4 s4
        have nx : ∀ {H5 : Hp}, Same H4 H5 → H5 D = some (.lst aV) := fun s5 => s5 _ _ (s4 _ _ (s3 _ _ hDa))
        have htk : xs.take (i + 1) = xs.take i ++ [d] := by rw [List.take_add_one, hd]; rfl
        cases k with
        | false =>
          simp only [Bool.false_eq_true, if_false] at ho3 ⊢
          injection ho3 with ho3; subst ho3
          refine ⟨(s2.trans s3).trans s4, aV, acc, nx (Same.refl _), ?_, (hrep.same s3).same s4, by omega⟩
          have := lcN_snoc hacc ho
          rw [htk, this]; simp
        | true =>
          simp only [if_true] at ho3 ⊢
          obtain ⟨dy, hy, ho4⟩ := bind_okI ho3
          injection ho4 with ho4; subst ho4
          refine ⟨bd', r1, hbH3.same s4, hen4.same s4, ?_⟩
          simp only [hy]
          intro vy H5 s5 ry
          have hD5 := nx s5
          refine ⟨aV, hD5, by have := ok.len; omega, ?_⟩
          have kp : Keep bd' H5 (upd H5 D (.lst (aV ++ [vy]))) := fun a ob n e => by
            rw [upd_ne (fun z => n (.inr z))]; exact e
          have grr : ∀ a, bd' a → bd' a ∨ H5 a = none := fun _ z => .inl z
          refine ⟨fun a ob e => ?_, aV ++ [vy], acc ++ [dy], upd_same, ?_, ?_, by rw [List.length_append]; simp; omega⟩
          · have hne : a ≠ D := fun z => by rw [z, hD] at e; cases e
            rw [upd_ne hne]
            exact s5 _ _ (s4 _ _ (s3 _ _ (s2 _ _ e)))
          · have := lcN_snoc hacc ho
            rw [htk, this]; rfl
          · have hrep5 : RepL X.prog X.w H5 bd' aV acc := ((hrep.same s3).same s4).same s5
            exact (RepL.go kp grr _ _ hrep5).append (.cons (Rep.go kp grr _ _ ry) .nil)
      · intro H2 p
        obtain ⟨s2, aV, acc, hDa, hacc, hrep, hlen⟩ := p
        rw [List.take_length, e2] at hacc
        injection hacc with hacc; subst hacc
        refine q _ H2 (s1.trans s2) (.lst (fun z => hb1 D z hD) hDa (Nat.le_trans hlen ok.len) ?_)
        exact RepL.go (Keep.of (Same.refl _)) (fun a z => .inl (.inl z)) _ _ hrep
end
end BT
set_option Elab.async false
set_option linter.all false
set_option maxRecDepth 100000
set_option maxHeartbeats 4000000
/-! BTStm: statements. -/
namespace BT
open PySem PySem.Spec PyProof.Rows L2

/-- what may change now: what the callers say, and what the changing slots hold -/
def bdOf (bd0 : Addr → Prop) (lin : Lc) (r : En) (σ : L2.St) : Addr → Prop := fun a => bd0 a ∨ ∃ i d, i ∈ lin.lin ∧ r[i]? = some (some d) ∧ σ[i]? = some (some (V.ref a))
structure StOk (P : Program) (w : World) (H0 : Hp) (bd0 : Addr → Prop) (lin : Lc) (r : En) (σ : L2.St) (H : Hp) : Prop where
  same : Same H0 H
  bad0 : BadIn bd0 H0
  env : EnvOk P w (bdOf bd0 lin r σ) lin r σ H
  own : ∀ i d, i ∈ lin.lin → r[i]? = some (some d) → ∃ a, σ[i]? = some (some (.ref a)) ∧ H0 a = none
  uniq : ∀ i j d e a, i ∈ lin.lin → j ∈ lin.lin → r[i]? = some (some d) → r[j]? = some (some e) → σ[i]? = some (some (.ref a)) → σ[j]? = some (some (.ref a)) → i = j
  len : σ.length = lin.n
def SRd (X : Cx) (W : WishX) (lin : Lc) (f : En → F) : TS := fun D σ H => ∃ H0 bd0 r, StOk X.prog X.w H0 bd0 lin r σ H ∧
  match f r with
  | .nx r' => ∀ σ' H', StOk X.prog X.w H0 bd0 lin r' σ' H' → D.nx σ' H'
  | .rt d => ∀ v H', Same H0 H' → Rep X.prog X.w H' bd0 v d → D.rt v H'
  | .bk r' => ∀ σ' H', StOk X.prog X.w H0 bd0 lin r' σ' H' → D.bk σ' H'
  | .ct r' => ∀ σ' H', StOk X.prog X.w H0 bd0 lin r' σ' H' → D.ct σ' H'
  | .exc c r' => ∀ σ' H', StOk X.prog X.w H0 bd0 lin r' σ' H' → W c σ' H'
  | .bad => False
section
variable {X : Cx} {W : WishX} {lin : Lc} {P : Program} {w : World} {H0 H H' : Hp} {bd0 : Addr → Prop} {r : En} {σ : L2.St}
theorem repT_dom {bd : Addr → Prop} {a : Addr} {d : D} (h : RepT P w H bd (.ref a) d) : ∃ o, H a = some o := by
  cases d with
  | none => cases h.nonI
  | bool _ => cases h.blI
  | int _ => cases h.intI
  | str _ => cases h.strI.1
  | list _ => obtain ⟨_, _, e, ra, _⟩ := h.listI; cases e; exact ⟨_, ra⟩
  | tuple _ => obtain ⟨_, _, e, _, ⟨_, ra, _⟩, _⟩ := h.tupI; cases e; exact ⟨_, ra⟩
  | dict _ =>
    obtain ⟨_, e, h⟩ := h.dictI
    cases e
    rcases h with ⟨_, h, _⟩ | ⟨_, _, h, _⟩ <;> exact ⟨_, h⟩
theorem StOk.bad (h : StOk P w H0 bd0 lin r σ H) : BadIn (bdOf bd0 lin r σ) H := fun a z => by
  rcases z with z | ⟨i, d, hi, hr, hs⟩
  · exact h.bad0.same h.same a z
  · obtain ⟨v, e1, r1⟩ := h.env.vals i d hr
    rw [hs] at e1
    cases e1
    obtain ⟨o, e⟩ := repT_dom r1.t
    rw [e]; intro q; cases q
theorem StOk.kept (h : StOk P w H0 bd0 lin r σ H) (s : Same H H') : StOk P w H0 bd0 lin r σ H' := ⟨h.same.trans s, h.bad0, h.env.same s, h.own, h.uniq, h.len⟩
theorem lin_get {i : Nat} {v : V} {j : Nat} (hj : j ≠ i) : (σ.set i (some v))[j]? = σ[j]? := by rw [List.getElem?_set_ne (Ne.symm hj)]
theorem bdOf_put {i : Nat} {v : V} {d : D} (hn : i ∉ lin.lin) : bdOf bd0 lin (put r i d) (σ.set i (some v)) = bdOf bd0 lin r σ := by
  funext a
  apply propext
  refine or_congr Iff.rfl ⟨fun ⟨j, e, hj, h1, h2⟩ => ?_, fun ⟨j, e, hj, h1, h2⟩ => ?_⟩
  · have ne : j ≠ i := fun z => hn (z ▸ hj)
    rcases put_get h1 with ⟨z, _⟩ | ⟨_, h1⟩
    · exact (ne z).elim
    · rw [lin_get ne] at h2; exact ⟨j, e, hj, h1, h2⟩
  · have ne : j ≠ i := fun z => hn (z ▸ hj)
    refine ⟨j, e, hj, ?_, by rw [lin_get ne]; exact h2⟩
    unfold put; rw [List.getElem?_set_ne (Ne.symm ne)]; exact h1
/-- a plain slot is stored -/
theorem StOk.put {i : Nat} {v : V} {d : D} (h : StOk P w H0 bd0 lin r σ H) (hi : i < lin.n) (hn : i ∉ lin.lin) (hs : ∀ j ns, lin.scr = some (j, ns) → j ≠ i) (rv : Rep P w H (bdOf bd0 lin r σ) v d) : StOk P w H0 bd0 lin (BT.put r i d) (σ.set i (some v)) H where
  same := h.same
  bad0 := h.bad0
  env := by rw [bdOf_put hn]; exact h.env.put (by rw [h.len]; exact hi) hn hs rv
  own := fun j e hj hr => by
    have ne : j ≠ i := fun z => hn (z ▸ hj)
    rcases put_get hr with ⟨z, _⟩ | ⟨_, hr⟩
    · exact (ne z).elim
    · rw [lin_get ne]; exact h.own j e hj hr
  uniq := fun j k e f a hj hk h1 h2 h3 h4 => by
    have nj : j ≠ i := fun z => hn (z ▸ hj)
    have nk : k ≠ i := fun z => hn (z ▸ hk)
    rcases put_get h1 with ⟨z, _⟩ | ⟨_, h1⟩
    · exact (nj z).elim
    rcases put_get h2 with ⟨z, _⟩ | ⟨_, h2⟩
    · exact (nk z).elim
    rw [lin_get nj] at h3
    rw [lin_get nk] at h4
    exact h.uniq j k e f a hj hk h1 h2 h3 h4
  len := by rw [List.length_set]; exact h.len
theorem StOk.putAll : ∀ {is : List Nat} {vs : List V} {ds : List D} {r : En} {σ : L2.St}, StOk P w H0 bd0 lin r σ H → (∀ i ∈ is, i < lin.n ∧ i ∉ lin.lin ∧ ∀ j ns, lin.scr = some (j, ns) → j ≠ i) → is.length = ds.length → RepL P w H (bdOf bd0 lin r σ) vs ds → StOk P w H0 bd0 lin (BT.putAll is ds r) (setAllS is vs σ) H
  | [], vs, ds, r, σ, h, _, e, rs => by
    cases ds with
    | nil => cases rs; exact h
    | cons _ _ => cases e
  | i :: is, vs, [], r, σ, h, _, e, rs => by cases e
  | i :: is, vs, d :: ds, r, σ, h, hi, e, rs => by
    cases rs with
    | cons a t =>
      obtain ⟨h1, h2, h3⟩ := hi i (.head _)
      have h' := h.put h1 h2 h3 a
      refine StOk.putAll (is := is) h' (fun j hj => hi j (.tail _ hj)) (by simpa using e) ?_
      rw [bdOf_put h2]; exact t
/-- an expression in a statement: behind it -/
theorem er_of {b : Bool} {f : En → R D} {Q : VK} {d : D} (h : StOk X.prog X.w H0 bd0 lin r σ H) (e : f r = .ok d)
    (q : ∀ v H', Same H H' → StOk X.prog X.w H0 bd0 lin r σ H' → RepX X.prog X.w H' (bdOf bd0 lin r σ) b v d → Q v H') : ER X W lin b f σ H Q := by
  refine ⟨_, r, h.bad, h.env, ?_⟩
  simp only [e]
  exact fun v H' s rv => q v H' s (h.kept s) rv
theorem er_exc {b : Bool} {f : En → R D} {Q : VK} {c : Str} (h : StOk X.prog X.w H0 bd0 lin r σ H) (e : f r = .exc c)
    (q : ∀ σ' H', StOk X.prog X.w H0 bd0 lin r σ' H' → W c σ' H') : ER X W lin b f σ H Q := by
  refine ⟨_, r, h.bad, h.env, ?_⟩
  simp only [e]
  exact fun H' s => q σ H' (h.kept s)
/-- a whole statement that begins with an expression -/
theorem sr_expr {b : Bool} {f : En → R D} {g : D → En → F} {D : Ends} {Q : VK} (h : SRd X W lin (fun r => (f r).toF r fun d => g d r) D σ H)
    (k : ∀ H0 bd0 r d v H', StOk X.prog X.w H0 bd0 lin r σ H' → RepX X.prog X.w H' (bdOf bd0 lin r σ) b v d → f r = .ok d →
      (match g d r with
        | .nx r' => ∀ σ' H', StOk X.prog X.w H0 bd0 lin r' σ' H' → D.nx σ' H'
        | .rt d => ∀ v H', Same H0 H' → Rep X.prog X.w H' bd0 v d → D.rt v H'
        | .bk r' => ∀ σ' H', StOk X.prog X.w H0 bd0 lin r' σ' H' → D.bk σ' H'
        | .ct r' => ∀ σ' H', StOk X.prog X.w H0 bd0 lin r' σ' H' → D.ct σ' H'
        | .exc c r' => ∀ σ' H', StOk X.prog X.w H0 bd0 lin r' σ' H' → W c σ' H'
        | .bad => False) → Q v H') : ER X W lin b f σ H Q := by
  obtain ⟨H0, bd0, r, ok, q⟩ := h
  cases e : f r with
  | bad => simp only [e, R.toF_bad] at q
  | exc c => simp only [e, R.toF_exc] at q; exact er_exc ok e q
  | ok d => simp only [e, R.toF_ok] at q; exact er_of ok e fun v H' s ok' rv => k H0 bd0 r d v H' ok' rv e q

/-! ### blocks -/
theorem ss_nil : PSs X [] (SRd X W lin fun r => .nx r) := by
  refine pss_imp pss_nil fun D σ H h => ?_
  obtain ⟨H0, bd0, r, ok, q⟩ := h
  exact q σ H ok
theorem ss_cons {st : Stmt} {rest : List Stmt} {f g : En → F} (h1 : PS X st (SRd X W lin f)) (h2 : PSs X rest (SRd X W lin g)) : PSs X (st :: rest) (SRd X W lin fun r => (f r).then fun r1 => g r1) := by
  refine pss_imp (pss_cons h1 h2) fun D σ H h => ?_
  obtain ⟨H0, bd0, r, ok, q⟩ := h
  refine ⟨H0, bd0, r, ok, ?_⟩
  cases e : f r with
  | nx r' => simp only [e, F.then_nx] at q; exact fun σ' H' ok' => ⟨H0, bd0, r', ok', q⟩
  | rt d => simp only [e, F.then_rt] at q; exact q
  | bk r' => simp only [e, F.then_bk] at q; exact q
  | ct r' => simp only [e, F.then_ct] at q; exact q
  | exc c r' => simp only [e, F.then_exc] at q; exact q
  | bad => simp only [e, F.then_bad] at q
/-- the length of the slots -/
theorem ps_impL {e : Stmt} {t t' : TS} (h : PS X e t) (i : ∀ D σ H, σ.length = X.N.length → t' D σ H → t D σ H) : PS X e t' := ⟨fun pins s σ H D I q => h.run pins s σ H D I (i D σ H I.len q)⟩
theorem pe_impL {e : Expr} {t t' : TE} (h : PE X e t) (i : ∀ σ H Q, σ.length = X.N.length → t' σ H Q → t σ H Q) : PE X e t' := ⟨fun pins s σ H Q I q => h.run pins s σ H Q I (i σ H Q I.len q)⟩

/-! ### small statements -/
theorem st_pass {pos : Pos} : PS X (.Pass pos) (SRd X W lin fun r => .nx r) := by
  refine ps_imp ps_pass fun D σ H h => ?_
  obtain ⟨H0, bd0, r, ok, q⟩ := h
  exact q σ H ok
theorem st_break {pos : Pos} : PS X (.Break pos) (SRd X W lin fun r => .bk r) := by
  refine ps_imp ps_break fun D σ H h => ?_
  obtain ⟨H0, bd0, r, ok, q⟩ := h
  exact q σ H ok
theorem st_continue {pos : Pos} : PS X (.Continue pos) (SRd X W lin fun r => .ct r) := by
  refine ps_imp ps_continue fun D σ H h => ?_
  obtain ⟨H0, bd0, r, ok, q⟩ := h
  exact q σ H ok
theorem rep_out {b : Bool} {v : V} {d : D} (ok : StOk P w H0 bd0 lin r σ H) (hl : b = true → ∃ i, i ∈ lin.lin ∧ r[i]? = some (some d) ∧ σ[i]? = some (some v)) (h : RepX P w H (bdOf bd0 lin r σ) b v d) : Rep P w H bd0 v d := by
  have gr : ∀ a, bd0 a → bdOf bd0 lin r σ a ∨ H a = none := fun a z => .inl (.inl z)
  have kp := Keep.of (bd := bdOf bd0 lin r σ) (Same.refl H)
  cases b with
  | false => exact Rep.go kp gr _ _ h
  | true =>
    obtain ⟨i, hi, hr, hs⟩ := hl rfl
    obtain ⟨a, e, hn⟩ := ok.own i d hi hr
    rw [hs] at e
    cases e
    have nb : ¬ bd0 a := fun z => ok.bad0 a z hn
    cases (show RepT P w H (bdOf bd0 lin r σ) (.ref a) d from h) with
    | of q => exact Rep.go kp gr _ _ q
    | lst ra la ta => exact .lst nb ra la (RepL.go kp gr _ _ ta)
    | dK ra la ta => exact .dK nb ra la (RepK.go kp gr _ _ ta)
    | dN ra la z ne nd ta => exact .dN nb ra la z ne nd (RepN.go kp gr _ _ ta)
theorem st_ret {e : Expr} {pos : Pos} {f : En → R D} (he : PE X e (ER X W lin false f)) : PS X (.Return (some e) pos) (SRd X W lin fun r => (f r).toF r fun d => .rt d) := by
  refine ps_imp (ps_ret he) fun D σ H h => ?_
  refine sr_expr (b := false) h fun H0 bd0 r d v H' ok rv e q => ?_
  exact q v H' ok.same (rep_out ok (fun z => by cases z) rv)
theorem st_retL {i : Nat} {x : Str} {p pos : Pos} (hi : i ∈ lin.lin) (hN : X.N[i]? = some x) (hv : Vis X.env.scope x) (hd : (x == ("__debug__" : Str)) = false) (hcd : (x == ("__classdict__" : Str)) = false) :
    PS X (.Return (some (.Name x p)) pos) (SRd X W lin fun r => (get r i).toF r fun d => .rt d) := by
  refine ps_imp (ps_ret (pe_var hN hv hd hcd)) fun D σ H h => ?_
  obtain ⟨H0, bd0, r, ok, q⟩ := h
  cases e : get r i with
  | bad => simp only [e, R.toF_bad] at q
  | exc c => exact (get_noexc e).elim
  | ok d =>
    simp only [e, R.toF_ok] at q
    obtain ⟨v, e1, rv⟩ := ok.env.vals i d (get_ok e)
    refine ⟨v, e1, q v H ok.same (rep_out (b := true) ok (fun _ => ⟨i, hi, get_ok e, e1⟩) ?_)⟩
    exact rv.t
theorem st_if {c : Expr} {a b : List Stmt} {pos : Pos} {fc : En → R Bool} {fa fb : En → F} (hc : PT X c (TR X W lin fc)) (ha : PSs X a (SRd X W lin fa)) (hb : PSs X b (SRd X W lin fb)) :
    PS X (.If c a b pos) (SRd X W lin fun r => (fc r).toF r fun k => if k then fa r else fb r) := by
  refine ps_imp (ps_if hc ha hb) fun D σ H h => ?_
  obtain ⟨H0, bd0, r, ok, q⟩ := h
  refine ⟨_, r, ok.bad, ok.env, ?_⟩
  cases e : fc r with
  | bad => simp only [e, R.toF_bad] at q
  | exc c => simp only [e, R.toF_exc] at q; exact fun H' s => q σ H' (ok.kept s)
  | ok k =>
    simp only [e, R.toF_ok] at q
    intro H' s
    cases k with
    | true => exact ⟨H0, bd0, r, ok.kept s, q⟩
    | false => exact ⟨H0, bd0, r, ok.kept s, q⟩
/-- a plain name is assigned -/
theorem st_set {i : Nat} {x : Str} {e : Expr} {p pos : Pos} {f : En → R D} (hN : X.N.Nodup) (hi : X.N[i]? = some x) (hln : i < lin.n) (hx : Loc X.env.scope x) (hn : i ∉ lin.lin) (hs : ∀ j ns, lin.scr = some (j, ns) → j ≠ i) (he : PE X e (ER X W lin false f))
    (hsw : swapsWith e (some (.Name x p)) pos.line X.env = pure false) (hf : X.fn x = true ∨ X.env.scope.names.lookup x = some .local) : PS X (.Assign [.Name x p] e pos) (SRd X W lin fun r => (f r).toF r fun d => .nx (put r i d)) := by
  refine ps_imp (ps_set hN hi hx he hsw hf) fun D σ H h => ?_
  refine sr_expr (b := false) h fun H0 bd0 r d v H' ok rv e q => ?_
  exact q _ H' (ok.put hln hn hs rv)
theorem st_setLc {i : Nat} {x : Str} {elt tg iter : Expr} {ifs : List Expr} {scope : Scope} {own : List (Str × Nat)} {p pos spos : Pos} {wi : TI} {g : TG} {tt : TT} {te : TE} {f : En → R D} (hc : X.calm = true) (hN : X.N.Nodup) (hi : X.N[i]? = some x) (hln : i < lin.n) (hyl : X.env.scope.names.lookup x = some .local) (hn : i ∉ lin.lin) (hs : ∀ j ns, lin.scr = some (j, ns) → j ≠ i)
    (hsw : swapsWith (.ListComp elt [⟨tg, iter, ifs, 0⟩] scope pos) (some (.Name x p)) spos.line X.env = pure true) (hit : PI X tg iter wi) (ok : BlkOk X.N X.env.scope scope own)
    (hg : ∀ (s : Shared) (H : Hp) (C : Addr) (cl : List (Str × Addr)) (fp : List Addr), PG (X.blk s H scope (compEnvC scope cl C X.env) fp) tg g) (ht : ∀ (s : Shared) (H : Hp) (C : Addr) (cl : List (Str × Addr)) (fp : List Addr), PTs (X.blk s H scope (compEnvC scope cl C X.env) fp) ifs tt)
    (he : ∀ (s : Shared) (H : Hp) (C : Addr) (cl : List (Str × Addr)) (fp : List Addr), PE (X.blk s H scope (compEnvC scope cl C X.env) fp) elt te) (hfs : ∀ x, foldedSetIterable iter X.env x = pure x)
    (hlc : ∀ σ H Q, σ.length = X.N.length → ER X W lin false f σ H Q → tLc wi g tt te (own.map (·.2)) σ H Q) :
    PS X (.Assign [.Name x p] (.ListComp elt [⟨tg, iter, ifs, 0⟩] scope pos) spos) (SRd X W lin fun r => (f r).toF r fun d => .nx (put r i d)) := by
  refine ps_impL (ps_setLc hc hN hi hyl hsw hit ok hg ht he hfs) fun D σ H hl h => ?_
  refine hlc σ H _ hl ?_
  refine sr_expr (b := false) h fun H0 bd0 r d v H' ok rv e q => ?_
  exact q _ H' (ok.put hln hn hs rv)
/-- a, b, .. = e -/
theorem st_unp {is : List Nat} {es : List Expr} {k : Nat} {e : Expr} {p pos : Pos} {f : En → R D} (hc : X.calm = true) (he : PE X e (ER X W lin false f)) (hg : PG X (.Tuple es k p) (gOf X.K (.tup is))) (hslots : ∀ i ∈ is, i < lin.n ∧ i ∉ lin.lin ∧ ∀ j ns, lin.scr = some (j, ns) → j ≠ i)
    (hs : swapsWithSole [.Tuple es k p] e pos.line X.env = pure false) (hw : swappedStores [.Tuple es k p] e X.env = pure none) (h1 : (assignEach [.Tuple es k p] X.env).map (·.2) = [assign (.Tuple es k p) X.env]) :
    PS X (.Assign [.Tuple es k p] e pos) (SRd X W lin fun r => (f r).toF r fun d => (asg (.tup is) d r).toF r fun r1 => .nx r1) := by
  refine ps_impL (ps_asg he hg hs hw h1) fun D σ H hl h => ?_
  refine sr_expr (b := false) (g := fun d r => (asg (.tup is) d r).toF r fun r1 => .nx r1) h fun H0 bd0 r d v H' ok rv e q => ?_
  cases d with
  | tuple ds =>
    by_cases hlen : is.length = ds.length
    · have ea : asg (.tup is) (.tuple ds) r = .ok (putAll is ds r) := by simp [asg, hlen]
      simp only [ea, R.toF_ok] at q
      cases (show Rep X.prog X.w H' (bdOf bd0 lin r σ) v (.tuple ds) from rv) with
      | tup n ra la ta =>
        rename_i a vs
        have hl2 : is.length = vs.length := by rw [ta.length]; exact hlen
        exact ⟨a, vs, rfl, ra.sq, hl2.symm, gNames_of hl2 (q _ H' (ok.putAll hslots hlen ta))⟩
    · have ea : asg (.tup is) (.tuple ds) r = .bad := by simp [asg, hlen]
      simp only [ea, R.toF_bad] at q
  | _ => exact q.elim
/-- a, b = x, y -/
theorem st_par2 {i j : Nat} {x y : Str} {a b : Expr} {px py pt pos : Pos} {kt k2 pt2} {f : En → R (List D)} (hc : X.calm = true) (hN : X.N.Nodup) (hi : X.N[i]? = some x) (hj : X.N[j]? = some y) (hij : i ≠ j)
    (hx : X.env.scope.names.lookup x = some .local) (hy : X.env.scope.names.lookup y = some .local) (ha : PA X [a, b] (AR X W lin f)) (hslots : ∀ k ∈ [i, j], k < lin.n ∧ k ∉ lin.lin ∧ ∀ z ns, lin.scr = some (z, ns) → z ≠ k)
    (hw : swappedStores [.Tuple [.Name x px, .Name y py] kt pt] (.Tuple [a, b] k2 pt2) X.env = pure (some [x, y]))
    (hs : swapsWithSole [.Tuple [.Name x px, .Name y py] kt pt] (.Tuple [a, b] k2 pt2) pos.line X.env = pure false) :
    PS X (.Assign [.Tuple [.Name x px, .Name y py] kt pt] (.Tuple [a, b] k2 pt2) pos) (SRd X W lin fun r => (f r).toF r fun ds => if [i, j].length = ds.length then .nx (putAll [i, j] ds r) else .bad) := by
  refine ps_impL (ps_par hc hN hi hj hij hx hy ha hw hs) fun D σ H hl h => ?_
  obtain ⟨H0, bd0, r, ok, q⟩ := h
  refine ⟨_, r, ok.bad, ok.env, ?_⟩
  cases e : f r with
  | bad => simp only [e, R.toF_bad] at q
  | exc c => simp only [e, R.toF_exc] at q; exact fun H' s => q σ H' (ok.kept s)
  | ok ds =>
    simp only [e, R.toF_ok] at q
    intro vs H' s rs
    by_cases hlen : [i, j].length = ds.length
    · rw [if_pos hlen] at q
      have hl2 : vs.length = 2 := by rw [rs.length]; exact hlen.symm
      match vs, hl2 with
      | [v, u], _ =>
        have ok' := (ok.kept s).putAll (is := [i, j]) hslots hlen rs
        exact ⟨v, u, rfl, q _ H' ok'⟩
    · rw [if_neg hlen] at q
      exact q.elim
/-- an expression whose value is dropped -/
theorem st_expr {e : Expr} {pos : Pos} {b : Bool} {f : En → R D} (he : PE X e (ER X W lin b f)) (hs : swapsWith e none pos.line X.env = pure false) : PS X (.Expr e pos) (SRd X W lin fun r => (f r).toF r fun _ => .nx r) := by
  refine ps_imp (ps_expr he hs) fun D σ H h => ?_
  exact sr_expr (b := b) h fun H0 bd0 r d v H' ok rv e q => q _ H' ok
open Classical in
noncomputable def rebase (lin : Lc) (r : En) (σ : L2.St) (H : Hp) : Hp := fun a => if (∃ i d, i ∈ lin.lin ∧ r[i]? = some (some d) ∧ σ[i]? = some (some (V.ref a))) then none else H a
open Classical in
theorem StOk.toBase (h : StOk P w H0 bd0 lin r σ H) : StOk P w (rebase lin r σ H) bd0 lin r σ H where
  same := fun a o e => by
    unfold rebase at e
    split at e
    · cases e
    · exact e
  bad0 := fun a z => by
    unfold rebase
    split
    · rename_i hx
      obtain ⟨i, d, hi, hr, hs⟩ := hx
      obtain ⟨b, e, hn⟩ := h.own i d hi hr
      rw [hs] at e; cases e
      exact (h.bad0 a z hn).elim
    · exact h.bad0.same h.same a z
  env := h.env
  own := fun i d hi hr => by
    obtain ⟨a, e, hn⟩ := h.own i d hi hr
    refine ⟨a, e, ?_⟩
    unfold rebase
    rw [if_pos ⟨i, d, hi, hr, e⟩]
  uniq := h.uniq
  len := h.len
open Classical in
theorem StOk.ofBase {r2 : En} {σ2 : L2.St} {H2 : Hp} (h : StOk P w H0 bd0 lin r σ H) (h2 : StOk P w (rebase lin r σ H) bd0 lin r2 σ2 H2) :
    StOk P w H0 bd0 lin r2 σ2 H2 ∧ Keep (bdOf bd0 lin r σ) H H2 ∧ Grow H (bdOf bd0 lin r σ) (bdOf bd0 lin r2 σ2) := by
  have held : ∀ a, (∃ i d, i ∈ lin.lin ∧ r[i]? = some (some d) ∧ σ[i]? = some (some (V.ref a))) → H0 a = none := fun a ⟨i, d, hi, hr, hs⟩ => by
    obtain ⟨b, e, hn⟩ := h.own i d hi hr
    rw [hs] at e; cases e
    exact hn
  have kp : ∀ a o, ¬ (∃ i d, i ∈ lin.lin ∧ r[i]? = some (some d) ∧ σ[i]? = some (some (V.ref a))) → H a = some o → H2 a = some o := fun a o n e => h2.same a o (by unfold rebase; rw [if_neg n]; exact e)
  have nn : ∀ a, rebase lin r σ H a = none → (∃ i d, i ∈ lin.lin ∧ r[i]? = some (some d) ∧ σ[i]? = some (some (V.ref a))) ∨ H a = none := fun a e => by
    unfold rebase at e
    split at e
    · rename_i hx; exact .inl hx
    · exact .inr e
  refine ⟨⟨fun a o e => ?_, h.bad0, h2.env, fun i d hi hr => ?_, h2.uniq, h2.len⟩, fun a o n e => ?_, fun a z => ?_⟩
  · exact kp a o (fun hx => by rw [held a hx] at e; cases e) (h.same a o e)
  · obtain ⟨a, e, hn⟩ := h2.own i d hi hr
    refine ⟨a, e, ?_⟩
    rcases nn a hn with hx | hx
    · exact held a hx
    · cases q : H0 a with
      | none => rfl
      | some o => rw [h.same a o q] at hx; cases hx
  · exact kp a o (fun hx => n (.inr hx)) e
  · rcases z with z | ⟨i, d, hi, hr, hs⟩
    · exact .inl (.inl z)
    · obtain ⟨b, e, hn⟩ := h2.own i d hi hr
      rw [hs] at e; cases e
      rcases nn a hn with hx | hx
      · exact .inl (.inr hx)
      · exact .inr hx
theorem bdOf_putAll : ∀ {is : List Nat} {vs : List V} {ds : List D} {r : En} {σ : L2.St}, (∀ i ∈ is, i ∉ lin.lin) → is.length = ds.length → vs.length = ds.length → bdOf bd0 lin (BT.putAll is ds r) (setAllS is vs σ) = bdOf bd0 lin r σ
  | [], vs, ds, r, σ, _, e, e2 => by
    cases ds with
    | nil => cases vs with
      | nil => rfl
      | cons _ _ => cases e2
    | cons _ _ => cases e
  | i :: is, vs, [], r, σ, _, e, e2 => by cases e
  | i :: is, [], d :: ds, r, σ, _, e, e2 => by cases e2
  | i :: is, v :: vs, d :: ds, r, σ, hi, e, e2 => by
    show bdOf bd0 lin (BT.putAll is ds (BT.put r i d)) (setAllS is vs (σ.set i (some v))) = _
    rw [bdOf_putAll (is := is) (fun j hj => hi j (.tail _ hj)) (by simpa using e) (by simpa using e2), bdOf_put (hi i (.head _))]
/-- a target takes a value -/
theorem g_asgS {K : PySem.W.Frag} {t : Tg} {d : D} {r1 : En} {v : V} {Q : L2.St → Hp → Prop} (e : asg t d r = .ok r1) (ok : StOk P w H0 bd0 lin r σ H) (hs : ∀ i ∈ t.slots, i < lin.n ∧ i ∉ lin.lin ∧ ∀ j ns, lin.scr = some (j, ns) → j ≠ i) (rv : RepI P w H (bdOf bd0 lin r σ) t.isT v d)
    (q : ∀ σ1, StOk P w H0 bd0 lin r1 σ1 H → bdOf bd0 lin r1 σ1 = bdOf bd0 lin r σ → Q σ1 H) : gOf K t v σ H Q := by
  cases t with
  | name i =>
    injection e with e; subst e
    obtain ⟨h1, h2, h3⟩ := hs i (.head _)
    rcases rv with rv | ⟨z, _⟩
    · exact q _ (ok.put h1 h2 h3 rv) (bdOf_put h2)
    · cases z
  | tup is =>
    cases d with
    | tuple ds =>
      have e : (if is.length = ds.length then R.ok (BT.putAll is ds r) else R.bad) = .ok r1 := e
      by_cases hl : is.length = ds.length
      · rw [if_pos hl] at e
        injection e with e; subst e
        rcases rv with rv | ⟨_, a, vs, ds', rfl, e2, ra, ta⟩
        · cases rv with
          | tup n ra la ta =>
            rename_i a vs
            have hl2 : is.length = vs.length := by rw [ta.length]; exact hl
            exact ⟨a, vs, rfl, ra.sq, hl2.symm, gNames_of hl2 (q _ (ok.putAll hs hl ta) (bdOf_putAll (fun i hi => (hs i hi).2.1) hl ta.length))⟩
        · cases e2
          have hl2 : is.length = vs.length := by rw [ta.length]; exact hl
          exact ⟨a, vs, rfl, SqT.of ra, hl2.symm, gNames_of hl2 (q _ (ok.putAll hs hl ta) (bdOf_putAll (fun i hi => (hs i hi).2.1) hl ta.length))⟩
      · rw [if_neg hl] at e; cases e
    | _ => cases e
  | nest i is =>
    obtain ⟨x, ds, rfl, hl, rfl⟩ := asg_nest e
    have fin : ∀ (p : Addr) (vs : List V), v = .ref p → SqT K H p vs → RepL P w H (bdOf bd0 lin r σ) vs [x, .tuple ds] → gOf K (.nest i is) v σ H Q := fun p vs ev sq ta => by
      cases ta with
      | cons r1 ta =>
        cases ta with
        | cons r2 ta =>
          cases ta
          cases r2 with
          | tup n ra la ta =>
            rename_i va b us
            have hl2 : is.length = us.length := by rw [ta.length]; exact hl
            refine ⟨p, [va, .ref b], ev, sq, rfl, va, [.ref b], rfl, .ref b, [], rfl, b, us, rfl, ra.sq, hl2.symm, gNames_of hl2 ⟨rfl, ?_⟩⟩
            exact q _ (ok.putAll (is := i :: is) (vs := va :: us) (ds := x :: ds) hs (by simp [hl]) (.cons r1 ta)) (bdOf_putAll (is := i :: is) (vs := va :: us) (ds := x :: ds) (fun j hj => (hs j hj).2.1) (by simp [hl]) (by simp [ta.length]))
    rcases rv with rv | ⟨_, p, vs, ds', rfl, e2, ra, ta⟩
    · cases rv with
      | tup n ra la ta => exact fin _ _ rfl ra.sq ta
    · cases e2
      exact fin p vs rfl (SqT.of ra) ta
/-- for -/
theorem st_for {tg iter : Expr} {t : Tg} {body : List Stmt} {pos : Pos} {fi : En → R (List D)} {fb : En → F} (hp : PassesOwn (model X.prog X.w) X.A X.env X.xe) (hc : X.calm = true) (hi : PI X tg iter (IR X W lin false t.isT fi)) (hg : PG X tg (gOf X.K t)) (hb : PSs X body (SRd X W lin fb))
    (hslots : ∀ i ∈ t.slots, i < lin.n ∧ i ∉ lin.lin ∧ ∀ j ns, lin.scr = some (j, ns) → j ≠ i) (hs : ∀ x, foldedSetIterable iter X.env x = pure x) :
    PS X (.For tg iter body [] pos) (SRd X W lin fun r => (fi r).toF r fun xs => forN t fb xs r) := by
  refine ps_imp (ps_for hp hc hi hg hb hs) fun D σ H h => ?_
  obtain ⟨H0, bd0, r, ok, q⟩ := h
  let post : F → Prop := fun x => match x with
    | .nx r' => ∀ σ' H', StOk X.prog X.w H0 bd0 lin r' σ' H' → D.nx σ' H'
    | .rt d => ∀ v H', Same H0 H' → Rep X.prog X.w H' bd0 v d → D.rt v H'
    | .bk r' => ∀ σ' H', StOk X.prog X.w H0 bd0 lin r' σ' H' → D.bk σ' H'
    | .ct r' => ∀ σ' H', StOk X.prog X.w H0 bd0 lin r' σ' H' → D.ct σ' H'
    | .exc c r' => ∀ σ' H', StOk X.prog X.w H0 bd0 lin r' σ' H' → W c σ' H'
    | .bad => False
  have q : post ((fi r).toF r fun xs => forN t fb xs r) := q
  refine ⟨_, r, ok.bad, ok.env, ?_⟩
  cases e : fi r with
  | bad => simp only [e, R.toF_bad] at q; exact q
  | exc c => simp only [e, R.toF_exc] at q; exact fun H' s => q σ H' (ok.kept s)
  | ok xs =>
    simp only [e, R.toF_ok] at q
    intro J H1 s1 it
    obtain ⟨G, Y, wk, g1, g2⟩ := it.ex
    have ok1 := ok.kept s1
    refine for_it wk (fun i σ2 H2 => ∃ r2, StOk X.prog X.w H0 bd0 lin r2 σ2 H2 ∧ post (forN t fb (xs.drop i) r2) ∧ Keep (bdOf bd0 lin r σ) H1 H2 ∧ Grow H1 (bdOf bd0 lin r σ) (bdOf bd0 lin r2 σ2)) ?_ ?_ ?_ ?_
    · exact ⟨r, ok1, by simpa using q, Keep.of (Same.refl _), Grow.refl⟩
    · rintro i σ2 H2 hi2 ⟨r2, ok2, q2, k2, gr2⟩
      exact g1 H2 k2
    · rintro i x σ2 H2 H3 hi2 ⟨r2, ok2, q2, k2, gr2⟩ y
      obtain ⟨s3, d, hd, rx⟩ := g2 _ gr2 i H2 x H3 hi2 ok2.bad k2 y
      have ok3 := ok2.kept s3
      have hdr : xs.drop i = d :: xs.drop (i + 1) := by
        obtain ⟨hlt, he⟩ := List.getElem?_eq_some_iff.mp hd
        rw [List.drop_eq_getElem_cons hlt, he]
      rw [hdr] at q2
      have q2 : post ((asg t d r2).toF r2 fun r1 => (fb r1).turn fun r2 => forN t fb (xs.drop (i + 1)) r2) := q2
      cases ea : asg t d r2 with
      | bad => simp only [ea, R.toF_bad] at q2; exact q2.elim
      | exc c => exact (asg_noexc ea).elim
      | ok r3 =>
        simp only [ea, R.toF_ok] at q2
        refine g_asgS ea ok3 hslots rx fun σ4 ok4 hbd => ?_
        have k3 : Keep (bdOf bd0 lin r σ) H1 H3 := fun a o n e => s3 a o (k2 a o n e)
        have gr4 : Grow H1 (bdOf bd0 lin r σ) (bdOf bd0 lin r3 σ4) := by rw [hbd]; exact gr2
        refine ⟨_, bd0, r3, ok4.toBase, ?_⟩
        have back : ∀ {r5 : En} {σ5 : L2.St} {H5 : Hp}, StOk X.prog X.w (rebase lin r3 σ4 H3) bd0 lin r5 σ5 H5 → StOk X.prog X.w H0 bd0 lin r5 σ5 H5 ∧ Keep (bdOf bd0 lin r σ) H1 H5 ∧ Grow H1 (bdOf bd0 lin r σ) (bdOf bd0 lin r5 σ5) := fun {r5 σ5 H5} h5 => by
          obtain ⟨a1, a2, a3⟩ := ok4.ofBase h5
          refine ⟨a1, fun a o n e => ?_, fun a z => ?_⟩
          · refine a2 a o (fun z => ?_) (k3 a o n e)
            rcases gr4 a z with z | z
            · exact n z
            · rw [e] at z; cases z
          · rcases a3 a z with z | z
            · exact gr4 a z
            · cases e : H1 a with
              | none => exact .inr rfl
              | some o =>
                left
                refine Classical.byContradiction fun n => ?_
                rw [k3 a o n e] at z; cases z
        cases e2 : fb r3 with
        | nx r' => simp only [e2, F.turn_nx] at q2; exact fun σ5 H5 ok5 => let ⟨a1, a2, a3⟩ := back ok5; ⟨r', a1, q2, a2, a3⟩
        | ct r' => simp only [e2, F.turn_ct] at q2; exact fun σ5 H5 ok5 => let ⟨a1, a2, a3⟩ := back ok5; ⟨r', a1, q2, a2, a3⟩
        | bk r' => simp only [e2, F.turn_bk] at q2; exact fun σ5 H5 ok5 => q2 σ5 H5 (back ok5).1
        | rt d =>
          simp only [e2, F.turn_rt] at q2
          refine fun v H5 s5 rv => q2 v H5 (fun a o e => s5 a o ?_) rv
          have hH := ok3.same a o e
          unfold rebase
          rw [if_neg (fun hx => ?_)]
          · exact hH
          · obtain ⟨j, dd, hj, hr, hs⟩ := hx
            obtain ⟨b, e', hn⟩ := ok4.own j dd hj hr
            rw [hs] at e'; cases e'
            rw [hn] at e; cases e
        | exc c r' => simp only [e2, F.turn_exc] at q2; exact fun σ5 H5 ok5 => q2 σ5 H5 (back ok5).1
        | bad => simp only [e2, F.turn_bad] at q2; exact q2
    · rintro σ2 H2 ⟨r2, ok2, q2, k2, gr2⟩
      rw [List.drop_length] at q2
      exact q2 σ2 H2 ok2
theorem st_while {c : Expr} {body : List Stmt} {pos : Pos} {fc : En → R Bool} {fb : En → F} {wf : Nat} (hp : PassesOwn (model X.prog X.w) X.A X.env X.xe) (hc : PT X c (TR X W lin fc)) (hb : PSs X body (SRd X W lin fb)) :
    PS X (.While c body [] pos) (SRd X W lin fun r => whileN fc fb wf r) := by
  refine ps_imp (ps_while hp hc hb) fun D σ H h => ?_
  obtain ⟨H0, bd0, r, ok, q⟩ := h
  let post : F → Prop := fun x => match x with
    | .nx r' => ∀ σ' H', StOk X.prog X.w H0 bd0 lin r' σ' H' → D.nx σ' H'
    | .rt d => ∀ v H', Same H0 H' → Rep X.prog X.w H' bd0 v d → D.rt v H'
    | .bk r' => ∀ σ' H', StOk X.prog X.w H0 bd0 lin r' σ' H' → D.bk σ' H'
    | .ct r' => ∀ σ' H', StOk X.prog X.w H0 bd0 lin r' σ' H' → D.ct σ' H'
    | .exc c r' => ∀ σ' H', StOk X.prog X.w H0 bd0 lin r' σ' H' → W c σ' H'
    | .bad => False
  refine ⟨fun n σ H => ∃ r, StOk X.prog X.w H0 bd0 lin r σ H ∧ post (whileN fc fb n r), ⟨wf, r, ok, q⟩, ?_⟩
  rintro n σ H ⟨r, ok, q⟩
  cases n with
  | zero => exact q.elim
  | succ n =>
    have q : post ((fc r).toF r fun k => if k then (fb r).turn fun r2 => whileN fc fb n r2 else .nx r) := q
    refine ⟨_, r, ok.bad, ok.env, ?_⟩
    cases e : fc r with
    | bad => simp only [e, R.toF_bad] at q; exact q
    | exc c => simp only [e, R.toF_exc] at q; exact fun H' s => q σ H' (ok.kept s)
    | ok k =>
      simp only [e, R.toF_ok] at q
      intro H' s
      cases k with
      | false =>
        simp only [Bool.false_eq_true, if_false] at q ⊢
        exact q σ H' (ok.kept s)
      | true =>
        simp only [if_true] at q ⊢
        refine ⟨fun σ2 H2 => ∃ r2, StOk X.prog X.w H0 bd0 lin r2 σ2 H2 ∧ post (whileN fc fb n r2), fun σ2 H2 h2 => ⟨n, Nat.lt_succ_self n, h2⟩, H0, bd0, r, ok.kept s, ?_⟩
        cases e2 : fb r with
        | nx r' => simp only [e2, F.turn_nx] at q; exact fun σ2 H2 ok2 => ⟨r', ok2, q⟩
        | ct r' => simp only [e2, F.turn_ct] at q; exact fun σ2 H2 ok2 => ⟨r', ok2, q⟩
        | bk r' => simp only [e2, F.turn_bk] at q; exact q
        | rt d => simp only [e2, F.turn_rt] at q; exact q
        | exc c r' => simp only [e2, F.turn_exc] at q; exact q
        | bad => simp only [e2, F.turn_bad] at q; exact q
end
end BT
set_option Elab.async false
set_option linter.all false
set_option maxRecDepth 100000
set_option maxHeartbeats 4000000
/-! BTMth: methods of built-in types; list(), tuple(). -/
namespace BT
open PySem PySem.Spec PyProof.Rows L2

section
variable {X : Cx} {W : WishX} {lin : Lc}
def TyIs (X : Cx) (T : String) (x : V) (H : Hp) : Prop := ∀ (pins : List (Addr × Obj)) (σ : L2.St) (s : Shared) (v : Value), Inv X pins σ H s → RelV x v → s.TypeIs v T ∧ ∀ a, v = .ref a → ∃ ob, s.heap.get? a = some ob ∧ ob.dict = none
structure MthK (name : Str) (T id : String) : Prop where
  pa : PlainAttrs T
  slot : Slot T name id
  hty : typeOf (.builtin id) = pure (.type "method_descriptor")
def anyMt (X : Cx) (id : String) : V → List V → Hp → VK → Prop := fun x vs H Q => ∃ rr, MtR X id rr ∧ rr x vs H Q
theorem any_mt {id : String} : MtR X id (anyMt X id) := fun pins s σ H x xs v us Q I rx rs h => by
  obtain ⟨rr, ho, q⟩ := h
  exact ho pins s σ H x xs v us Q I rx rs q
theorem pe_mth {o e : Expr} {es : List Expr} {to : TE} {t : TA} {name : Str} {apos cpos : Pos} (ho : PE X o to) (ha : PA X (e :: es) t) (hbase : attributeBase o name X.env (eval o X.env) = eval o X.env)
    (hfew : ((backTo cpos (starEach (e :: es) X.env)).all (fun x => !x.1) && (backToKw cpos (keywordEach [] X.env)).all (fun x => x.1.isSome) && decide ((e :: es).length + ([] : List Keyword).length + (if ([] : List Keyword).isEmpty then 0 else 1) < 30)) = true)
    (hline : (apos.endLine == cpos.line) = true) (hs : starEach (e :: es) X.env = (false, eval e X.env) :: starEach es X.env) (hplain : (backTo cpos (starEach es X.env)).any (·.1) = false) :
    PE X (.Call (.Attribute o name apos) (e :: es) [] cpos) (fun σ H Q => to σ H fun x H1 => ∃ T id, MthK name T id ∧ TyIs X T x H1 ∧ t σ H1 fun vs H2 => anyMt X id x vs H2 Q) := by
  refine ⟨fun pins s σ H Q I h => ?_⟩
  refine wpAny_Call_method_late hbase hfew hline rfl (thn (ho.run pins s σ H _ I h) fun v s1 ⟨x, H1, I1, r1, T, id, mk, ty, q1⟩ => ?_)
  obtain ⟨h1, h2⟩ := ty pins σ s1 v I1 r1
  refine ⟨T, id, mk.pa, mk.slot, mk.hty, h1, h2, ?_⟩
  have hA := ha.run cpos pins s1 σ H1 _ I1 q1
  rw [hs] at hA ⊢
  refine Calls.callWith_builtin (by show (false || (backTo cpos (starEach es X.env)).any (·.1)) = false; rw [hplain] <;> rfl) (Calls.evalArgs_plain ?_)
  exact thn hA fun us s2 ⟨vs, H2, I2, r2, q2⟩ => any_mt pins s2 σ H2 x vs v us Q I2 r1 r2 q2
theorem pe_mth0 {o : Expr} {to : TE} {name : Str} {apos cpos : Pos} (ho : PE X o to) (hbase : attributeBase o name X.env (eval o X.env) = eval o X.env) (hline : (apos.endLine == cpos.line) = true) :
    PE X (.Call (.Attribute o name apos) [] [] cpos) (fun σ H Q => to σ H fun x H1 => ∃ T id, MthK name T id ∧ TyIs X T x H1 ∧ anyMt X id x [] H1 Q) := by
  refine ⟨fun pins s σ H Q I h => ?_⟩
  refine wpAny_Call_method0_late hbase hline (thn (ho.run pins s σ H _ I h) fun v s1 ⟨x, H1, I1, r1, T, id, mk, ty, q1⟩ => ?_)
  obtain ⟨h1, h2⟩ := ty pins σ s1 v I1 r1
  exact ⟨T, id, mk.pa, mk.slot, mk.hty, h1, h2, Calls.callWith_builtin rfl (PySem.evalArgs_none (any_mt pins s1 σ H1 x [] v [] Q I1 r1 .nil q1))⟩
/-- what a method must give -/
def MtOk (X : Cx) (name : Str) (g : List D → R D) : Prop := ∀ dx ds d, g (dx :: ds) = .ok d → ∃ T id, MthK name T id ∧ (∀ bd x H, RepT X.prog X.w H bd x dx → TyIs X T x H) ∧
  ∀ bd x vs H Q, BadIn bd H → RepT X.prog X.w H bd x dx → RepTL X.prog X.w H bd vs ds → (∀ v H', Same H H' → Rep X.prog X.w H' bd v d → Q v H') → anyMt X id x vs H Q
theorem s_mth {o e : Expr} {es : List Expr} {name : Str} {apos cpos : Pos} {b : Bool} {bl : Blt} {f : En → R D} {g : En → R (List D)} (hm : MtOk X name (bltF bl)) (ho : PE X o (ER X W lin b f)) (ha : PA X (e :: es) (ARt X W lin g))
    (hbase : attributeBase o name X.env (eval o X.env) = eval o X.env)
    (hfew : ((backTo cpos (starEach (e :: es) X.env)).all (fun x => !x.1) && (backToKw cpos (keywordEach [] X.env)).all (fun x => x.1.isSome) && decide ((e :: es).length + ([] : List Keyword).length + (if ([] : List Keyword).isEmpty then 0 else 1) < 30)) = true)
    (hline : (apos.endLine == cpos.line) = true) (hs : starEach (e :: es) X.env = (false, eval e X.env) :: starEach es X.env) (hplain : (backTo cpos (starEach es X.env)).any (·.1) = false) :
    PE X (.Call (.Attribute o name apos) (e :: es) [] cpos) (ER X W lin false fun r => (f r).bind fun d => (g r).calm.bind fun ds => bltF bl (d :: ds)) := by
  refine pe_imp (pe_mth ho ha hbase hfew hline hs hplain) fun σ H Q h => ?_
  obtain ⟨bd, r, hb, hen, q⟩ := h
  refine ⟨bd, r, hb, hen, ?_⟩
  cases e1 : f r with
  | bad => simp only [e1, R.bind_bad] at q
  | exc c => simp only [e1, R.bind_exc] at q; exact q
  | ok d =>
    simp only [e1, R.bind_ok] at q
    intro v H1 s1 rv
    cases e2 : g r with
    | bad => simp only [e2, R.calm_bad, R.bind_bad] at q
    | exc c => simp only [e2, R.calm_exc, R.bind_bad] at q
    | ok ds =>
      simp only [e2, R.calm_ok, R.bind_ok] at q
      cases e3 : bltF bl (d :: ds) with
      | bad => simp only [e3] at q
      | exc c => exact (blt_noexc e3).elim
      | ok d3 =>
        simp only [e3] at q
        obtain ⟨T, id, mk, ty, h3⟩ := hm d ds d3 e3
        refine ⟨T, id, mk, ty bd v H1 rv.t, bd, r, hb.same s1, hen.same s1, ?_⟩
        simp only [e2]
        intro vs H2 s2 rs
        exact h3 bd v vs H2 Q ((hb.same s1).same s2) (rv.t.same s2) rs fun v3 H3 s3 r3 => q v3 H3 ((s1.trans s2).trans s3) r3
theorem s_mth0 {o : Expr} {name : Str} {apos cpos : Pos} {b : Bool} {bl : Blt} {f : En → R D} (hm : MtOk X name (bltF bl)) (ho : PE X o (ER X W lin b f))
    (hbase : attributeBase o name X.env (eval o X.env) = eval o X.env) (hline : (apos.endLine == cpos.line) = true) :
    PE X (.Call (.Attribute o name apos) [] [] cpos) (ER X W lin false fun r => (f r).bind fun d => bltF bl [d]) := by
  refine pe_imp (pe_mth0 ho hbase hline) fun σ H Q h => ?_
  refine ER.bind (b := b) (g := fun d r => bltF bl [d]) h fun bd r d v H1 hb he e1 rv q => ?_
  cases e3 : bltF bl [d] with
  | bad => simp only [e3] at q
  | exc c => exact (blt_noexc e3).elim
  | ok d3 =>
    simp only [e3] at q
    obtain ⟨T, id, mk, ty, h3⟩ := hm d [] d3 e3
    exact ⟨T, id, mk, ty bd v H1 rv.t, h3 bd v [] H1 Q hb rv.t .nil q⟩
theorem ty_str {bd : Addr → Prop} {x : V} {H : Hp} {z : Str} (r : RepT X.prog X.w H bd x (.str z)) : TyIs X "str" x H := fun pins σ s v I rv => by
  rw [r.strI.1] at rv
  exact tyV_is (x := .str z) I rv rfl
theorem ty_list {bd : Addr → Prop} {x : V} {H : Hp} {ds : List D} (r : RepT X.prog X.w H bd x (.list ds)) : TyIs X "list" x H := fun pins σ s v I rv => by
  obtain ⟨a, vs, rfl, ra, _⟩ := r.listI
  exact tyV_is (x := .ref a) I rv (.inl ⟨rfl, vs, SqL.of ra⟩)
theorem ty_dict {bd : Addr → Prop} {x : V} {H : Hp} {ds : List (D × D)} (r : RepT X.prog X.w H bd x (.dict ds)) : TyIs X "dict" x H := fun pins σ s v I rv => by
  obtain ⟨a, rfl, h⟩ := r.dictI
  cases (show v = .ref a from rv)
  rcases h with ⟨kvs, h1, h2, h3⟩ | ⟨ep, xs, h1, h2, h3, h4, h5, h6⟩
  · exact tyV_is (x := .ref a) I rv (.inr (.inr (.inl ⟨rfl, .inl ⟨kvs, h1⟩⟩)))
  · obtain ⟨o, es, ep, g1, g2, g3, g4, g5, g6⟩ := DN.of ⟨⟨ep, h1⟩, h2, h3, h5, h6⟩ I
    exact ⟨⟨o, g1, g2.1⟩, fun b e => by cases e; exact ⟨o, g1, g2.2.1⟩⟩
theorem mt_any {id : String} {rr : V → List V → Hp → VK → Prop} {x : V} {vs : List V} {H : Hp} {Q : VK} (h : MtR X id rr) (q : rr x vs H Q) : anyMt X id x vs H Q := ⟨rr, h, q⟩
theorem mk_upper : MthK "upper" "str" "str.upper" := ⟨PySem.F.plainAttrs_str, PySem.F.slot_str_upper, PySem.F.type_str_upper⟩
theorem mk_strip : MthK "strip" "str" "str.strip" := ⟨PySem.F.plainAttrs_str, PySem.F.slot_str_strip, PySem.F.type_str_strip⟩
theorem mk_split : MthK "split" "str" "str.split" := ⟨PySem.F.plainAttrs_str, PySem.F.slot_str_split, PySem.F.type_str_split⟩
theorem mk_join : MthK "join" "str" "str.join" := ⟨PySem.F.plainAttrs_str, PySem.F.slot_str_join, PySem.F.type_str_join⟩
theorem mk_get : MthK "get" "dict" "dict.get" := ⟨PySem.F.plainAttrs_dict, PySem.F.slot_dict_get, PySem.F.type_dict_get⟩
theorem mto_upper : MtOk X "upper" (bltF .upper) := by
  intro dx ds d e
  match dx, ds, e with
  | .str x, [], e =>
    obtain ⟨e1, e2⟩ := gd_ok e
    injection e2 with e2; subst e2
    rw [Bool.and_eq_true] at e1
    refine ⟨_, _, mk_upper, fun bd v H r => ty_str r, fun bd v vs H Q hb r rs q => ?_⟩
    cases rs
    obtain ⟨rfl, o⟩ := r.strI
    exact mt_any mt_upper ⟨x, rfl, rfl, of_decide_eq_true e1.1, q _ H (Same.refl _) (.str (okSb_iff e1.2))⟩
theorem stripBy_sub (goes : Nat → Bool) (l r : Bool) (x : Str) : (PySem.Txt.stripBy goes l r x).length ≤ x.length ∧ ∀ c ∈ (PySem.Txt.stripBy goes l r x).cps.toList, c ∈ x.cps.toList := by
  unfold PySem.Txt.stripBy
  split
  · exact ⟨Nat.le_refl _, fun _ h => h⟩
  · unfold stripped Builtin.Str.strSub
    refine ⟨?_, fun c hc => ?_⟩
    · show (Array.extract _ _ _).size ≤ x.cps.size
      rw [Array.size_extract]; omega
    · have : c ∈ x.cps.extract _ _ := Array.mem_toList_iff.mp hc
      rw [Array.mem_extract_iff_getElem] at this
      obtain ⟨i, hi, e⟩ := this
      rw [← e]
      exact Array.mem_toList_iff.mpr (Array.getElem_mem _)
theorem mto_strip : MtOk X "strip" (bltF .strip) := by
  intro dx ds d e
  match dx, ds, e with
  | .str x, [.str y], e =>
    injection e with e; subst e
    refine ⟨_, _, mk_strip, fun bd v H r => ty_str r, fun bd v vs H Q hb r rs q => ?_⟩
    obtain ⟨u, rfl, ru⟩ := tl1 rs
    obtain ⟨rfl, o⟩ := r.strI
    obtain ⟨rfl, o2⟩ := ru.strI
    obtain ⟨h1, h2⟩ := stripBy_sub y.cps.contains true true x
    exact mt_any mt_stripChars ⟨x, y, rfl, rfl, o.1, q _ H (Same.refl _) (.str (okS_sub o h1 h2))⟩
theorem repL_strs {P : Program} {w : World} {H : Hp} {bd : Addr → Prop} : ∀ {ss : List Str}, (∀ x ∈ ss, OkS x) → RepL P w H bd (ss.map V.str) (ss.map .str)
  | [], _ => .nil
  | s :: ss, h => .cons (.str (h s (.head _))) (repL_strs fun x hx => h x (.tail _ hx))
theorem mto_split : MtOk X "split" (bltF .split) := by
  intro dx ds d e
  match dx, ds, e with
  | .str x, [.str y], e =>
    obtain ⟨e1, e2⟩ := gd_ok e
    injection e2 with e2; subst e2
    simp only [Bool.and_eq_true, Bool.not_eq_true'] at e1
    obtain ⟨⟨⟨a1, a2⟩, a3⟩, a4⟩ := e1
    refine ⟨_, _, mk_split, fun bd v H r => ty_str r, fun bd v vs H Q hb r rs q => ?_⟩
    obtain ⟨u, rfl, ru⟩ := tl1 rs
    obtain ⟨rfl, o⟩ := r.strI
    obtain ⟨rfl, o2⟩ := ru.strI
    refine mt_any mt_split ⟨x, y, rfl, rfl, a1, by rw [← lim_eq]; exact of_decide_eq_true a2, fun p hp => q _ _ (same_upd hp) (new_lst hb hp ?_ (repL_strs fun z hz => okSb_iff (List.all_eq_true.mp a4 z hz)))⟩
    rw [List.length_map, ← lim_eq]; exact of_decide_eq_true a3
theorem mto_join : MtOk X "join" (bltF .join) := by
  intro dx ds d e
  match dx, ds, e with
  | .str x, [.list xs], e =>
    obtain ⟨ys, e1, e2⟩ := bind_okI e
    obtain ⟨e3, e4⟩ := gd_ok e2
    injection e4 with e4; subst e4
    rw [Bool.and_eq_true] at e3
    refine ⟨_, _, mk_join, fun bd v H r => ty_str r, fun bd v vs H Q hb r rs q => ?_⟩
    obtain ⟨u, rfl, ru⟩ := tl1 rs
    obtain ⟨rfl, o⟩ := r.strI
    obtain ⟨a, us, rfl, ra, la, ta⟩ := ru.listI
    obtain ⟨rfl, h2⟩ := strs_map ta (ofO_ok e1)
    exact mt_any mt_join ⟨x, a, ys, rfl, rfl, .inl (SqL.of ra), of_decide_eq_true e3.1, q _ H (Same.refl _) (.str (okSb_iff e3.2))⟩
theorem RepK.keys {P : Program} {w : World} {H : Hp} {bd : Addr → Prop} : ∀ {kvs : List (Key × V)} {ds : List (D × D)}, RepK P w H bd kvs ds → RepL P w H bd (kvs.map fun kv => kV kv.1) (keysOf ds)
  | _, [], h => by cases h; exact .nil
  | _, _ :: _, h => by cases h with | cons o a t => exact .cons (.str o) (RepK.keys t)
theorem blt_list (hc : X.calm = true) : BltOk X (.type "list") (bltF .list) := by
  intro ds d e bd vs H Q hb rs q
  match ds, e with
  | [.list xs], e =>
    injection e with e; subst e
    obtain ⟨v, rfl, r⟩ := tl1 rs
    obtain ⟨a, us, rfl, ra, la, ta⟩ := r.listI
    exact call_of call_list_of ⟨a, us, rfl, .inl (SqL.of ra), fun p hp => q _ _ (same_upd hp) (new_lst hb hp la ta)⟩
  | [.tuple xs], e =>
    injection e with e; subst e
    obtain ⟨v, rfl, r⟩ := tl1 rs
    obtain ⟨a, us, rfl, na, ra, la, ta⟩ := r.tupI
    exact call_of call_list_of ⟨a, us, rfl, .inr ra.sq, fun p hp => q _ _ (same_upd hp) (new_lst hb hp la ta)⟩
  | [.dict kvs], e =>
    obtain ⟨e1, e2⟩ := gd_ok e
    injection e2 with e2; subst e2
    obtain ⟨v, rfl, r⟩ := tl1 rs
    obtain ⟨a, rfl, _⟩ := r.dictI
    rcases Bool.or_eq_true_iff.mp e1 with e1 | e1
    · obtain ⟨ks, h1, h2, h3⟩ := viewK r e1
      exact call_of (call_listD hc) ⟨a, ks, rfl, .inl h1, fun p hp => q _ _ (same_upd hp) (new_lst hb hp (by simpa using h3) h2.keys)⟩
    · exact call_of (call_listN hc) ⟨bd, a, kvs, rfl, r, e1, fun zs rn hz p hp => q _ _ (same_upd hp) (new_lst hb hp (by simpa using hz) rn.keys)⟩
theorem blt_tuple (hc : X.calm = true) : BltOk X (.type "tuple") (bltF .tuple) := by
  intro ds d e bd vs H Q hb rs q
  match ds, e with
  | [.list xs], e =>
    injection e with e; subst e
    obtain ⟨v, rfl, r⟩ := tl1 rs
    obtain ⟨a, us, rfl, ra, la, ta⟩ := r.listI
    exact call_of call_tupF ⟨a, us, rfl, .inl ⟨SqL.of ra, fun p o hp ho => q _ _ (same_upd hp) (new_tup ho hb hp la ta)⟩⟩
  | [.tuple xs], e =>
    injection e with e; subst e
    obtain ⟨v, rfl, r⟩ := tl1 rs
    obtain ⟨a, us, rfl, na, ra, la, ta⟩ := r.tupI
    exact call_of call_tupF ⟨a, us, rfl, .inr ⟨ra.sq, q _ H (Same.refl _) (.tup na ra la ta)⟩⟩
  | [.dict kvs], e =>
    obtain ⟨e1, e2⟩ := gd_ok e
    injection e2 with e2; subst e2
    obtain ⟨v, rfl, r⟩ := tl1 rs
    obtain ⟨a, rfl, _⟩ := r.dictI
    exact call_of (call_tupN hc) ⟨bd, a, kvs, rfl, r, e1, fun zs rn hz p o hp ho => q _ _ (same_upd hp) (new_tup ho hb hp (by simpa using hz) rn.keys)⟩
/-- .. whose arguments are whole -/
def MtOkR (X : Cx) (name : Str) (g : List D → R D) : Prop := ∀ dx ds d, g (dx :: ds) = .ok d → ∃ T id, MthK name T id ∧ (∀ bd x H, RepT X.prog X.w H bd x dx → TyIs X T x H) ∧
  ∀ bd x vs H Q, BadIn bd H → RepT X.prog X.w H bd x dx → RepL X.prog X.w H bd vs ds → (∀ v H', Same H H' → Rep X.prog X.w H' bd v d → Q v H') → anyMt X id x vs H Q
theorem s_mthR {o e : Expr} {es : List Expr} {name : Str} {apos cpos : Pos} {b : Bool} {bl : Blt} {f : En → R D} {g : En → R (List D)} (hm : MtOkR X name (bltF bl)) (ho : PE X o (ER X W lin b f)) (ha : PA X (e :: es) (AR X W lin g))
    (hbase : attributeBase o name X.env (eval o X.env) = eval o X.env)
    (hfew : ((backTo cpos (starEach (e :: es) X.env)).all (fun x => !x.1) && (backToKw cpos (keywordEach [] X.env)).all (fun x => x.1.isSome) && decide ((e :: es).length + ([] : List Keyword).length + (if ([] : List Keyword).isEmpty then 0 else 1) < 30)) = true)
    (hline : (apos.endLine == cpos.line) = true) (hs : starEach (e :: es) X.env = (false, eval e X.env) :: starEach es X.env) (hplain : (backTo cpos (starEach es X.env)).any (·.1) = false) :
    PE X (.Call (.Attribute o name apos) (e :: es) [] cpos) (ER X W lin false fun r => (f r).bind fun d => (g r).calm.bind fun ds => bltF bl (d :: ds)) := by
  refine pe_imp (pe_mth ho ha hbase hfew hline hs hplain) fun σ H Q h => ?_
  obtain ⟨bd, r, hb, hen, q⟩ := h
  refine ⟨bd, r, hb, hen, ?_⟩
  cases e1 : f r with
  | bad => simp only [e1, R.bind_bad] at q
  | exc c => simp only [e1, R.bind_exc] at q; exact q
  | ok d =>
    simp only [e1, R.bind_ok] at q
    intro v H1 s1 rv
    cases e2 : g r with
    | bad => simp only [e2, R.calm_bad, R.bind_bad] at q
    | exc c => simp only [e2, R.calm_exc, R.bind_bad] at q
    | ok ds =>
      simp only [e2, R.calm_ok, R.bind_ok] at q
      cases e3 : bltF bl (d :: ds) with
      | bad => simp only [e3] at q
      | exc c => exact (blt_noexc e3).elim
      | ok d3 =>
        simp only [e3] at q
        obtain ⟨T, id, mk, ty, h3⟩ := hm d ds d3 e3
        refine ⟨T, id, mk, ty bd v H1 rv.t, bd, r, hb.same s1, hen.same s1, ?_⟩
        simp only [e2]
        intro vs H2 s2 rs
        exact h3 bd v vs H2 Q ((hb.same s1).same s2) (rv.t.same s2) rs fun v3 H3 s3 r3 => q v3 H3 ((s1.trans s2).trans s3) r3
theorem mto_get (hu : X.A.units + 64 < cLine) : MtOkR X "get" (bltF .get) := by
  intro dx ds d e
  match dx, ds, e with
  | .dict kvs, [k, x], e =>
    obtain ⟨e1, e2⟩ := gd_ok e
    injection e2 with e2; subst e2
    refine ⟨_, _, mk_get, fun bd v H r => ty_dict r, fun bd v vs H Q hb r rs q => ?_⟩
    cases rs with
    | cons rk rt =>
      cases rt with
      | cons rd rn =>
        cases rn
        exact mt_any (mt_getDict hu) ⟨bd, kvs, k, _, _, x, rfl, hb, r, .of rk, e1, rd, fun v rv => q v H (Same.refl _) rv⟩
end
end BT
set_option Elab.async false
set_option linter.all false
set_option maxRecDepth 100000
set_option maxHeartbeats 8000000
/-! BTDct: dict(pairs); storing in dicts. -/
namespace BT
open PySem PySem.Spec PyProof.Rows L2
section
variable {P : Program} {w : World} {H : Hp} {bd : Addr → Prop}
theorem eqvS {x y : Str} : PyData.eqv (.str x) (.str y) = decide (x = y) := by
  show (x == y) = _
  by_cases h : x = y
  · subst h; simp
  · rw [decide_eq_false h, beq_eq_false_iff_ne]; exact h
theorem RepK.any {x : Str} : ∀ {kvs : List (Key × V)} {ds : List (D × D)}, RepK P w H bd kvs ds → (kvs.any fun kv => decide (kv.1 = .inr x)) = (ds.any fun kv => PyData.eqv kv.1 (.str x))
  | _, [], h => by cases h; rfl
  | _, (kd, d0) :: ds, h => by
    cases h with
    | cons o a t =>
      rename_i y v r
      rw [List.any_cons, List.any_cons, RepK.any t, eqvS]
      congr 1
      rw [decide_eq_decide]
      exact ⟨fun z => Sum.inr.inj z, fun z => by rw [z]⟩
theorem RepK.map {x : Str} {v : V} {d : D} (rv : Rep P w H bd v d) : ∀ {kvs : List (Key × V)} {ds : List (D × D)}, RepK P w H bd kvs ds → RepK P w H bd (kvs.map fun kv => if kv.1 = .inr x then (kv.1, v) else kv) (ds.map fun kv => if PyData.eqv kv.1 (.str x) then (kv.1, d) else kv)
  | _, [], h => by cases h; exact .nil
  | _, (kd, d0) :: ds, h => by
    cases h with
    | cons o a t =>
      rename_i y v0 r
      rw [List.map_cons, List.map_cons, eqvS]
      by_cases e : y = x
      · rw [if_pos (by rw [e]), decide_eq_true e, if_pos rfl]
        exact .cons o rv (RepK.map rv t)
      · rw [if_neg (fun z => e (Sum.inr.inj z)), decide_eq_false e, if_neg (by decide)]
        exact .cons o a (RepK.map rv t)
theorem RepK.snoc {x : Str} {v : V} {d : D} (ox : OkS x) (rv : Rep P w H bd v d) : ∀ {kvs : List (Key × V)} {ds : List (D × D)}, RepK P w H bd kvs ds → RepK P w H bd (kvs ++ [(.inr x, v)]) (ds ++ [(.str x, d)])
  | _, [], h => by cases h; exact .cons ox rv .nil
  | _, (kd, d0) :: ds, h => by
    cases h with
    | cons o a t => exact .cons o a (RepK.snoc ox rv t)
theorem RepK.put {x : Str} {v : V} {d : D} {kvs : List (Key × V)} {ds : List (D × D)} (ox : OkS x) (rv : Rep P w H bd v d) (h : RepK P w H bd kvs ds) : RepK P w H bd (putK kvs (.inr x) v) (dput ds (.str x) d) := by
  unfold putK dput
  rw [RepK.any h]
  by_cases e : (ds.any fun kv => PyData.eqv kv.1 (.str x)) = true
  · rw [if_pos e, if_pos e]; exact RepK.map rv h
  · rw [if_neg e, if_neg e]; exact RepK.snoc ox rv h
theorem RepN.any {kd : D} {k : NestedKey} (hk : keyOf kd = some k) : ∀ {xs : List (NestedKey × Addr × Value)} {ds : List (D × D)}, RepN P w H bd xs ds → (atKey xs k).isSome = (ds.any fun kv => PyData.eqv kv.1 kd)
  | _, [], h => by cases h; rfl
  | _, (kd0, d0) :: ds, h => by
    cases h with
    | cons e s i a u b t =>
      rename_i k0 a0 u0 v0 r
      rw [List.any_cons, eqv_keyD e hk, ← RepN.any hk t]
      by_cases z : k0 = k
      · simp [atKey, List.find?_cons, z]
      · simp [atKey, List.find?_cons, z]
theorem RepN.map {kd : D} {k : NestedKey} {v : V} {u : Value} {d : D} (hk : keyOf kd = some k) (ru : RelV v u) (rv : Rep P w H bd v d) : ∀ {xs : List (NestedKey × Addr × Value)} {ds : List (D × D)}, RepN P w H bd xs ds → RepN P w H bd (xs.map (putAt k u)) (ds.map fun kv => if PyData.eqv kv.1 kd then (kv.1, d) else kv)
  | _, [], h => by cases h; exact .nil
  | _, (kd0, d0) :: ds, h => by
    cases h with
    | cons e s i a u0 b t =>
      rename_i k0 a0 w0 v0 r
      rw [List.map_cons, List.map_cons, eqv_keyD e hk]
      by_cases z : k0 = k
      · have : putAt k u (k0, a0, w0) = (k0, a0, u) := by unfold putAt; rw [if_pos z]
        rw [this, decide_eq_true z, if_pos rfl]
        exact .cons e s i a ru rv (RepN.map hk ru rv t)
      · have : putAt k u (k0, a0, w0) = (k0, a0, w0) := by unfold putAt; rw [if_neg z]
        rw [this, decide_eq_false z, if_neg (by decide)]
        exact .cons e s i a u0 b (RepN.map hk ru rv t)
theorem RepN.snoc {kd : D} {k : NestedKey} {b : Addr} {v : V} {u : Value} {d : D} (hk : keyOf kd = some k) (hs : shal 8 kd = true) (ht : isTupD kd = true) (rk : Rep P w H bd (.ref b) kd) (ru : RelV v u) (rv : Rep P w H bd v d) : ∀ {xs : List (NestedKey × Addr × Value)} {ds : List (D × D)}, RepN P w H bd xs ds → RepN P w H bd (xs ++ [(k, b, u)]) (ds ++ [(kd, d)])
  | _, [], h => by cases h; exact .cons hk hs ht rk ru rv .nil
  | _, (kd0, d0) :: ds, h => by
    cases h with
    | cons e s i a u0 b0 t => exact .cons e s i a u0 b0 (RepN.snoc hk hs ht rk ru rv t)
theorem RepN.put {kd : D} {k : NestedKey} {b : Addr} {v : V} {u : Value} {d : D} {xs : List (NestedKey × Addr × Value)} {ds : List (D × D)} (hk : keyOf kd = some k) (hs : shal 8 kd = true) (ht : isTupD kd = true) (rk : Rep P w H bd (.ref b) kd) (ru : RelV v u) (rv : Rep P w H bd v d) (h : RepN P w H bd xs ds) :
    RepN P w H bd (storedH xs k b u) (dput ds kd d) := by
  unfold storedH dput
  rw [RepN.any hk h]
  by_cases e : (ds.any fun kv => PyData.eqv kv.1 kd) = true
  · rw [if_pos e, if_pos e]; exact RepN.map hk ru rv h
  · rw [if_neg e, if_neg e]; exact RepN.snoc hk hs ht rk ru rv h
end
/-- a pair of the argument -/
structure PItem where
  at_ : Addr
  k : V
  v : V
  uk : Value
  uv : Value
structure PIt (X : Cx) (H : Hp) (bd : Addr → Prop) (h : Heap) (it : PItem) (kd : D × D) : Prop where
  tup : IsTup h it.at_ #[it.uk, it.uv]
  rk : RelV it.k it.uk
  rv : RelV it.v it.uv
  dk : Rep X.prog X.w H bd it.k kd.1
  dv : Rep X.prog X.w H bd it.v kd.2
section
variable {X : Cx} {pins : List (Addr × Obj)} {σ : L2.St} {H : Hp} {s : Shared} {bd : Addr → Prop}
theorem items_of (I : Inv X pins σ H s) : ∀ {vs : List V} {ds : List D} {us : List Value} {kds : List (D × D)}, RepL X.prog X.w H bd vs ds → Vals vs us → pairsOf ds = some kds → ∃ its : List PItem, Paired (PIt X H bd s.heap) its kds ∧ us = its.map fun it => .ref it.at_
  | _, [], us, kds, h, rv, e => by
    cases h
    cases rv
    simp only [pairsOf, Option.some.injEq] at e
    subst e
    exact ⟨[], .nil, rfl⟩
  | _, d :: ds, us, kds, h, rv, e => by
    cases h with
    | cons a t =>
      cases rv with
      | cons ra rt =>
        cases d with
        | tuple xs =>
          match xs, a, e with
          | [k, v], a, e =>
            simp only [pairsOf, Option.map_eq_some_iff] at e
            obtain ⟨kds', e1, rfl⟩ := e
            obtain ⟨its, h1, h2⟩ := items_of I t rt e1
            cases a with
            | tup n ta la tt =>
              rename_i b ws
              cases ra
              obtain ⟨ti, rti, pt, _⟩ := I.tuple ta.sq
              cases tt with
              | cons r1 tt =>
                cases tt with
                | cons r2 tt =>
                  cases tt
                  obtain ⟨u1, u2, rfl, q1, q2⟩ := vals2 rti
                  exact ⟨⟨b, _, _, u1, u2⟩ :: its, .cons ⟨pt, q1, q2, r1, r2⟩ h1, by rw [List.map_cons, ← h2]⟩
          | [], _, e => simp [pairsOf] at e
          | [_], _, e => simp [pairsOf] at e
          | _ :: _ :: _ :: _, _, e => simp [pairsOf] at e
        | _ => simp [pairsOf] at e
theorem paired_get {α β : Type} {R : α → β → Prop} {xs : List α} {ys : List β} (h : Paired R xs ys) : ∀ {j : Nat} {x : α}, xs[j]? = some x → ∃ y, ys[j]? = some y ∧ R x y := by
  induction h with
  | nil => intro j x e; simp at e
  | cons a t ih =>
    intro j x e
    cases j with
    | zero => simp at e; subst e; exact ⟨_, rfl, a⟩
    | succ j => exact ih (by simpa using e)
theorem paired_len {α β : Type} {R : α → β → Prop} {xs : List α} {ys : List β} (h : Paired R xs ys) : xs.length = ys.length := by
  induction h with
  | nil => rfl
  | cons a t ih => simp [ih]
theorem pairItems_of {its : List PItem} {kds : List (D × D)} (h : Paired (PIt X H bd s.heap) its kds) : PairItems s.heap (its.map fun it => Value.ref it.at_).toArray (fun j => (its[j]?.map (·.at_)).getD 0) (its.map fun it => (it.uk, it.uv)) := by
  refine ⟨by simp, fun j k v e => ?_⟩
  rw [List.getElem?_map, Option.map_eq_some_iff] at e
  obtain ⟨it, e1, e2⟩ := e
  cases e2
  refine ⟨by simp [e1], ?_⟩
  have : ((its[j]?.map (·.at_)).getD 0) = it.at_ := by rw [e1]; rfl
  obtain ⟨kd, _, hp⟩ := paired_get h e1
  show PairAt s.heap ((its[j]?.map (·.at_)).getD 0) it.uk it.uv
  rw [this]
  exact .inl hp.tup
/-- what is new at p -/
def NewAt (X : Cx) (H : Hp) (bd : Addr → Prop) (d : D) (Q : VK) : Prop := ∀ p o, H p = none → RepT X.prog X.w (upd H p o) (fun a => bd a ∨ a = p) (.ref p) d → Q (.ref p) (upd H p o)
theorem new_rep {p : Addr} {o : HO} {d : D} (hb : BadIn bd H) (hp : H p = none) (r : RepT X.prog X.w (upd H p o) (fun a => bd a ∨ a = p) (.ref p) d) : Rep X.prog X.w (upd H p o) bd (.ref p) d := by
  have nb : ¬ bd p := fun z => hb p z hp
  have kp : Keep (fun a => bd a ∨ a = p) (upd H p o) (upd H p o) := fun _ _ _ e => e
  have gr : ∀ a, bd a → (bd a ∨ a = p) ∨ upd H p o a = none := fun a z => .inl (.inl z)
  cases r with
  | of q => exact Rep.go kp gr _ _ q
  | lst ra la ta => exact .lst nb ra la (RepL.go kp gr _ _ ta)
  | dK ra la ta => exact .dK nb ra la (RepK.go kp gr _ _ ta)
  | dN ra la z ne nd ta => exact .dN nb ra la z ne nd (RepN.go kp gr _ _ ta)
def DictR (X : Cx) : List V → Hp → VK → Prop := fun vs H Q => ∃ bd x c ds kds, vs = [x] ∧ BadIn bd H ∧ RepT X.prog X.w H bd x c ∧ (c = .list ds ∨ c = .tuple ds) ∧ pairsOf ds = some kds ∧ fitAll kds = true ∧ NewAt X H bd (.dict (dictFrom kds)) Q
def strV : V → Str
  | .str x => x
  | _ => ""
theorem str_of {v : V} {d : D} (h : Rep X.prog X.w H bd v d) (e : isStrD d = true) : ∃ x, d = .str x ∧ v = .str x ∧ OkS x := by
  cases d with
  | str x => cases h with | str o => exact ⟨x, rfl, rfl, o⟩
  | _ => cases e
theorem merge_rep {kds : List (D × D)} {its : List PItem} {h : Heap} (hp : Paired (PIt X H bd h) its kds) : (∀ kd ∈ kds, isStrD kd.1 = true) → ∀ {acc : List (Key × V)} {dacc : List (D × D)}, RepK X.prog X.w H bd acc dacc →
    RepK X.prog X.w H bd (mergeK acc (its.map fun it => (.inr (strV it.k), it.v))) (kds.foldl (fun acc kv => dput acc kv.1 kv.2) dacc) := by
  induction hp with
  | nil => intro _ acc dacc r; exact r
  | cons a t ih =>
    rename_i it kd its kds
    intro hs acc dacc r
    obtain ⟨x, e1, e2, o⟩ := str_of a.dk (hs kd (.head _))
    show RepK X.prog X.w H bd (mergeK (putK acc (.inr (strV it.k)) it.v) (its.map fun it => (.inr (strV it.k), it.v))) (kds.foldl (fun acc kv => dput acc kv.1 kv.2) (dput dacc kd.1 kd.2))
    rw [e1, e2]
    exact ih (fun kd hk => hs kd (.tail _ hk)) (RepK.put o a.dv r)
theorem kv_items {its : List PItem} {kds : List (D × D)} {h : Heap} (hp : Paired (PIt X H bd h) its kds) : KV (its.map fun it => ((.inr (strV it.k) : Key), it.v)) (its.map fun it => ((.inr (strV it.k) : Key), it.uv)) := by
  induction hp with
  | nil => exact .nil
  | cons a t ih => exact .cons ⟨rfl, a.rv⟩ ih
theorem dput_ne {ds : List (D × D)} {k v : D} : dput ds k v ≠ [] := by
  unfold dput
  split
  · rename_i h
    cases ds with
    | nil => simp at h
    | cons d ds => simp
  · simp
theorem fold_ne : ∀ {kds acc : List (D × D)}, kds ≠ [] ∨ acc ≠ [] → kds.foldl (fun acc kv => dput acc kv.1 kv.2) acc ≠ []
  | [], acc, h => h.resolve_left (fun z => z rfl)
  | kd :: kds, acc, _ => fold_ne (kds := kds) (.inr dput_ne)
theorem nest_items {its : List PItem} {kds : List (D × D)} {h : Heap} (hp : Paired (PIt X H bd h) its kds) : (∀ kd ∈ kds, isTupD kd.1 = true ∧ shal 8 kd.1 = true ∧ nolist kd.1 = true) → ∃ ps : List (NestedKey × Addr × Value), ps.length = its.length ∧
    (∀ (j : Nat) (it : PItem), its[j]? = some it → ∃ k b, ps[j]? = some (k, b, it.uv) ∧ it.uk = .ref b) ∧ (∀ x ∈ ps, ∃ kd, KN X H bd x.2.1 kd x.1) ∧
    ∀ {acc : List (NestedKey × Addr × Value)} {dacc : List (D × D)}, RepN X.prog X.w H bd acc dacc → RepN X.prog X.w H bd (storedAllH acc ps) (kds.foldl (fun acc kv => dput acc kv.1 kv.2) dacc) := by
  induction hp with
  | nil => exact fun _ => ⟨[], rfl, (fun j it e => by simp at e), (fun x hx => by cases hx), fun r => r⟩
  | cons a t ih =>
    rename_i it kd its kds
    intro hs
    obtain ⟨ps, h1, h2, h3, h4⟩ := ih fun kd hk => hs kd (.tail _ hk)
    obtain ⟨t1, t2, t3⟩ := hs kd (.head _)
    obtain ⟨k, ek, dk⟩ := keyOf_shal kd.1 8 .non X.prog X.w H bd t2 t3
    obtain ⟨b, eb⟩ : ∃ b, it.k = .ref b := by
      have := a.dk
      revert this t1
      cases kd.1 with
      | tuple xs => intro _ r; exact (RepT.of r).tupI.elim fun b z => ⟨b, z.elim fun _ z => z.1⟩
      | _ => intro z; cases z
    have hrep : Rep X.prog X.w H bd (.ref b) kd.1 := by have := a.dk; rw [eb] at this; exact this
    have huk : it.uk = .ref b := by have := a.rk; rw [eb] at this; exact this
    refine ⟨(k, b, it.uv) :: ps, by simp [h1], fun j it' e => ?_, fun x hx => ?_, fun r => ?_⟩
    · cases j with
      | zero => simp at e; subst e; exact ⟨k, b, rfl, huk⟩
      | succ j => exact h2 j it' (by simpa using e)
    · rcases List.mem_cons.mp hx with rfl | hx
      · exact ⟨kd.1, ek, dk, hrep⟩
      · exact h3 x hx
    · exact h4 (RepN.put ek t2 t1 hrep a.rv a.dv r)
theorem call_dict_rep (hcalm : X.calm = true) (hu : X.A.units + 64 < cLine) : CallR X (.type "dict") (DictR X) := by
  intro pins s σ H vs us Q I rvs h
  obtain ⟨bd, x, c, ds, kds, rfl, hb, rx, hc, hp, hf, q⟩ := h
  obtain ⟨u, rfl, ru⟩ := vals1 rvs
  have hh : X.A.handled = none := I.ok.hd hcalm
  -- the argument
  obtain ⟨a, ws, its0, T, rfl, rw0, rl, hT, hlen, hps⟩ : ∃ (a : Addr) (ws : List V) (its0 : List Value) (T : String), u = .ref a ∧ Vals ws its0 ∧ RepL X.prog X.w H bd ws ds ∧ (T = "list" ∨ T = "tuple") ∧ ws.length ≤ sizeLine ∧ PlainSeq T s.heap a its0.toArray := by
    rcases hc with rfl | rfl
    · obtain ⟨a, ws, rfl, ra, la, ta⟩ := rx.listI
      cases ru
      obtain ⟨its, r, pl, hz⟩ := I.list (SqL.of ra)
      obtain ⟨o, n, ho, h1, h2, h3⟩ := pl
      exact ⟨a, ws, its, "list", rfl, r, ta, .inl rfl, la, ⟨o, n, ho, h1, h2, h3⟩⟩
    · obtain ⟨a, ws, rfl, _, ⟨o, ra, od⟩, la, ta⟩ := rx.tupI
      cases ru
      obtain ⟨ho, hz, its, r, o', ho', h1, n, h2⟩ := (show ObjOk X.prog X.w H s.heap a (.frz o (.tup ws)) from I.hok a _ ra)
      rw [ho] at ho'; cases ho'
      exact ⟨a, ws, its, "tuple", rfl, r, ta, .inr rfl, la, ⟨o, n, ho, h1, od, h2⟩⟩
  obtain ⟨its, hpi, rfl⟩ := items_of I rl rw0 hp
  have hPI := pairItems_of hpi
  have hlk : its.length = kds.length := paired_len hpi
  have hn : its.length ≤ sizeLine := by
    have := rw0.length
    rw [List.length_map] at this
    omega
  have hsys : (s.heap.objs.size == sysModules) = false := beq_eq_false_iff_ne.mpr (Nat.ne_of_gt I.big)
  have hfresh : H s.heap.objs.size = none := I.hok.fresh (Nat.le_refl _)
  have up : ∀ {o : HO}, Keep bd H (upd H s.heap.objs.size o) := fun {o} => Keep.of (same_upd hfresh)
  have grow : ∀ b, (bd b ∨ b = s.heap.objs.size) → bd b ∨ H b = none := fun b z => z.imp id (fun e => by rw [e]; exact hfresh)
  unfold fitAll at hf
  rw [Bool.or_eq_true] at hf
  by_cases hstr : (kds.all fun kv => isStrD kv.1) = true
  · -- texts as keys
    have hs : ∀ kd ∈ kds, isStrD kd.1 = true := fun kd hk => List.all_eq_true.mp hstr kd hk
    let prs : List (Key × Value) := its.map fun it => (.inr (strV it.k), it.uv)
    let kvs : List (Key × V) := its.map fun it => (.inr (strV it.k), it.v)
    have hKV : KV kvs prs := kv_items hpi
    have hPH : PairsHave (mixKind X.prog X.w) its.length (PairRel (its.map fun it => (it.uk, it.uv))) prs := by
      refine ⟨by simp [prs], fun i key v e => ?_⟩
      have e : (its.map fun it => (it.uk, it.uv))[i]? = some (key, v) := e
      rw [List.getElem?_map, Option.map_eq_some_iff] at e
      obtain ⟨it, e1, e2⟩ := e
      cases e2
      obtain ⟨kd, e3, hpt⟩ := paired_get hpi e1
      obtain ⟨x, e4, e5, o⟩ := str_of hpt.dk (hs kd (List.mem_of_getElem? e3))
      refine ⟨.inr (strV it.k), by simp [prs, e1], ?_⟩
      have hr := hpt.rk
      rw [e5] at hr
      obtain ⟨t, ht⟩ := hr
      rw [ht, e5]
      show Value.isStrOf x (.str x t) = true
      simp [Value.isStrOf]
    have fin : ∀ h' tk, h'.DictOf (mixKind X.prog X.w) s.heap.objs.size (merged [] prs) → (∀ b o, b ∉ ([] : List Addr) → s.heap.get? b = some o → h'.get? b = some o) → EP X pins σ Q (.ref s.heap.objs.size) { s with heap := h', toks := tk } := fun h' tk hd' hk => by
      have hmr := merge_rep hpi hs (acc := []) (dacc := []) .nil
      have hle : (mergeK [] kvs).length ≤ sizeLine := by
        refine Nat.le_trans (length_mergeK kvs []) ?_
        simp [kvs]; exact hn
      refine ⟨.ref s.heap.objs.size, upd H s.heap.objs.size (.dK (mergeK [] kvs)), I.laid (t' := tk) (fun b o e => hk b o (fun z => nomatch z) e) (Nat.le_refl _) (show ObjOk X.prog X.w _ _ _ (.dK (mergeK [] kvs)) from ⟨hle, hsys, merged [] prs, KV.merge hKV .nil, hd'⟩), rfl, q _ _ hfresh (.dK upd_same hle (RepK.go up grow _ _ hmr))⟩
    rcases hT with rfl | rfl
    · exact PySem.call_dict_pairs (PairArg.list a _ _ (its.map fun it => (it.uk, it.uv))) hh ⟨hps, hPI⟩ (by rw [List.length_map]; exact hPH) (by rw [List.length_map]; exact hn) fin
    · exact PySem.call_dict_pairs (PairArg.tuple a _ _ (its.map fun it => (it.uk, it.uv))) hh ⟨hps, hPI⟩ (by rw [List.length_map]; exact hPH) (by rw [List.length_map]; exact hn) fin
  · -- tuples as keys
    have hs : ∀ kd ∈ kds, isTupD kd.1 = true ∧ shal 8 kd.1 = true ∧ nolist kd.1 = true := fun kd hk => by
      have := List.all_eq_true.mp (hf.resolve_left hstr) kd hk
      simp only [Bool.and_eq_true] at this
      exact ⟨this.1.1, this.1.2, this.2⟩
    have hne : kds ≠ [] := fun z => by rw [z] at hstr; exact hstr rfl
    obtain ⟨ps, h1, h2, h3, h4⟩ := nest_items hpi hs
    have hPH : PairsHaveH (nestedKind X.prog X.w) its.length (PairRel (its.map fun it => (it.uk, it.uv))) ps := by
      refine ⟨h1, fun i key v e => ?_⟩
      have e : (its.map fun it => (it.uk, it.uv))[i]? = some (key, v) := e
      rw [List.getElem?_map, Option.map_eq_some_iff] at e
      obtain ⟨it, e1, e2⟩ := e
      cases e2
      exact h2 i it e1
    have hst : KeysStay (nestedKind X.prog X.w) s.heap s.heap.objs.size [] ps := fun h' hk x hx => by
      obtain ⟨kd, kn⟩ := h3 x hx
      exact nestedKind_stays.stays (fun b o vs n e _ => hk b o (Nat.ne_of_lt (Heap.lt_size e)) (fun z => nomatch z) e) (kn.is I)
    have hroom : (nestedKind X.prog X.w).room X.A.in1.in1 := by
      show X.A.in1.in1.units + 8 < cLine
      show X.A.units + 1 + 1 + 8 < cLine
      omega
    have fin : ∀ h' tk, h'.DictOfH (nestedKind X.prog X.w) s.heap.objs.size (storedAllH [] ps) → (∀ b o, b ∉ ([] : List Addr) → s.heap.get? b = some o → h'.get? b = some o) → EP X pins σ Q (.ref s.heap.objs.size) { s with heap := h', toks := tk } := fun h' tk hd' hk => by
      have hmr := h4 (acc := []) (dacc := []) .nil
      have hle : (storedAllH [] ps).length ≤ sizeLine := by
        refine Nat.le_trans (storedAllH_length ps []) ?_
        simp [h1]; exact hn
      have hxs : storedAllH [] ps ≠ [] := fun z => by
        have hl := hmr.length
        rw [z] at hl
        exact fold_ne (.inl hne) (List.length_eq_zero_iff.mp hl.symm)
      obtain ⟨o, es, ep, g1, g2, g3, g4, g5, g6⟩ := hd'
      refine ⟨.ref s.heap.objs.size, upd H s.heap.objs.size (BT.dN X.prog X.w s.heap.objs.size ep (storedAllH [] ps)), I.laid (t' := tk) (fun b o e => hk b o (fun z => nomatch z) e) (Nat.le_refl _) ?_, rfl, q _ _ hfresh (.dN upd_same hle hsys hxs g6 (RepN.go up grow _ _ hmr))⟩
      exact ⟨⟨o, es, g1, g2, g3, g4⟩, ⟨o, g1⟩, fun h1 h2 ⟨o', es', z1, z2, z3, z4⟩ kp => ⟨o', es', kp _ z1, z2, z3, z4⟩⟩
    rcases hT with rfl | rfl
    · exact PySem.call_dict_pairsH (PairArg.list a _ _ (its.map fun it => (it.uk, it.uv))) hh hroom ⟨hps, hPI⟩ (by rw [List.length_map]; exact hPH) hst (by rw [List.length_map]; exact hn) fin
    · exact PySem.call_dict_pairsH (PairArg.tuple a _ _ (its.map fun it => (it.uk, it.uv))) hh hroom ⟨hps, hPI⟩ (by rw [List.length_map]; exact hPH) hst (by rw [List.length_map]; exact hn) fin
theorem blt_dict (hcalm : X.calm = true) (hu : X.A.units + 64 < cLine) : BltOk X (.type "dict") (bltF .dict) := by
  intro ds d e bd vs H Q hb rs q
  have go : ∀ {c : D} {xs : List D}, (c = .list xs ∨ c = .tuple xs) → RepTL X.prog X.w H bd vs [c] → ((R.ofO (pairsOf xs)).bind fun ps => .gd (fitAll ps) (.ok (.dict (dictFrom ps)))) = .ok d → anyCall X (.type "dict") vs H Q := fun {c xs} hc rs e => by
    obtain ⟨kds, e1, e2⟩ := bind_okI e
    obtain ⟨f1, f2⟩ := gd_ok e2
    injection f2 with f2; subst f2
    have e1 : pairsOf xs = some kds := by
      cases hp : pairsOf xs with
      | none => rw [hp] at e1; cases e1
      | some z => rw [hp] at e1; cases e1; rfl
    cases rs with
    | cons r t =>
      cases t
      exact ⟨_, call_dict_rep hcalm hu, bd, _, c, xs, kds, rfl, hb, r, hc, e1, f1, fun p o hp hr => q _ _ (same_upd hp) (new_rep hb hp hr)⟩
  match ds, e, rs with
  | [.list xs], e, rs => exact go (.inl rfl) rs e
  | [.tuple xs], e, rs => exact go (.inr rfl) rs e
  | [], e, _ => cases e
  | [.none], e, _ => cases e
  | [.bool _], e, _ => cases e
  | [.int _], e, _ => cases e
  | [.str _], e, _ => cases e
  | [.dict _], e, _ => cases e
  | a :: b :: r, e, _ => cases a <;> cases e
end
end BT
set_option Elab.async false
set_option linter.all false
set_option maxRecDepth 100000
set_option maxHeartbeats 8000000
/-! BTLst: list.count, list.index. -/
namespace BT
open PySem PySem.Spec PyProof.Rows L2
section
variable {X : Cx}
theorem mt_countD (hu : X.A.units + 65 < cLine) : MtR X "list.count" (fun x xs H Q => ∃ (a : Addr) (y : V) (d : PyData) (ds : List PyData), x = V.ref a ∧ xs = [y] ∧ Dp X.K H (V.ref a) (.list ds) ∧ Dp X.K H y d ∧ SeqAt.shaped (.list ds) = true ∧ SeqAt.shaped d = true ∧ Q (.int ((ds.filter fun z => PyData.eqv z d).length : Nat)) H) := by
  intro pins s σ H x xs v us Q I rx rxs h
  obtain ⟨a, y, d, ds, rfl, rfl, hl, hy, sl, sd, q⟩ := h
  cases rx
  cases rxs with
  | cons ry rt =>
    rename_i uy ut
    cases rt
    obtain ⟨bs, r1⟩ := Dp.reads I d y uy hy ry
    have hxs : PyData.canLayAll0 ds = true := SeqAt.canLay_of_shaped sl
    have hroom : X.A.units + 1 + min (PyData.depthAll ds) d.depth < cLine := room_in_shaped sd hu
    cases hl with
    | lst hs ha =>
      obtain ⟨its, rv, ⟨⟨cls, dd, data, sls⟩, n, ho, hc, hdn, hdt⟩, hlen⟩ := I.list hs
      simp only at hc hdt
      subst hc hdt
      obtain ⟨as, h4⟩ := Dp.readsAll I ds _ its ha rv
      have hmap : its.map (SeqAt.readOf s.heap) = ds := SeqAt.readsAll_map ds its as hxs h4
      refine call_meets PySem.F.slot_list_count ⟨_, ho, rfl⟩ PySem.F.entry_list_count (PySem.F.args_list_count_2 _ _)
        (SeqAt.list_countAt a its.toArray n dd sls uy (fun u => PyData.eqv (SeqAt.readOf s.heap u) d)) ⟨ho, SeqAt.items_eqAt (vs := its.toArray) (show ReadsAll s.heap its.toArray.toList ds as from h4) r1 hxs (SeqAt.canLay_of_shaped sd) hroom, ?_⟩
      have ec : its.toArray.toList.countP (fun u => PyData.eqv (SeqAt.readOf s.heap u) d) = (ds.filter fun z => PyData.eqv z d).length := by
        rw [← hmap, ← List.countP_eq_length_filter, List.countP_map]; rfl
      rw [ec]
      exact ⟨.int ((ds.filter fun z => PyData.eqv z d).length : Nat), H, I.tok _, ⟨_, rfl⟩, q⟩
theorem mk_count : MthK "count" "list" "list.count" := ⟨PySem.F.plainAttrs_list, PySem.F.slot_list_count, PySem.F.type_list_count⟩
theorem mk_index : MthK "index" "list" "list.index" := ⟨PySem.F.plainAttrs_list, PySem.F.slot_list_index, PySem.F.type_list_index⟩
theorem shaped_two {H : Hp} {bd : Addr → Prop} {v y : V} {xs : List D} {d : D} (r : RepT X.prog X.w H bd v (.list xs)) (ry : RepT X.prog X.w H bd y d) (h1 : shalL 60 xs = true) (h2 : shal 60 d = true) :
    Dp X.K H v (.list xs) ∧ Dp X.K H y d ∧ SeqAt.shaped (.list xs) = true ∧ SeqAt.shaped d = true := by
  obtain ⟨a1, a2, a3⟩ := r.dp (K := X.K) (n := 61) (by simpa [shal] using h1)
  obtain ⟨b1, b2, b3⟩ := ry.dp (K := X.K) (n := 60) h2
  exact ⟨a1, b1, shaped_of a2 a3 (by decide), shaped_of b2 b3 (by decide)⟩
theorem mk_countS : MthK "count" "str" "str.count" := ⟨PySem.F.plainAttrs_str, PySem.F.slot_str_count, PySem.F.type_str_count⟩
theorem ty_lst {H : Hp} {bd : Addr → Prop} {v : V} {xs : List D} (r : RepT X.prog X.w H bd v (.list xs)) : TyIs X "list" v H := by
  obtain ⟨a, vs, rfl, ra, _⟩ := r.listI
  exact fun pins σ s v I rv => tyV_is (x := .ref a) I rv (.inl ⟨rfl, vs, SqL.of ra⟩)
theorem mto_count (hu : X.A.units + 65 < cLine) : MtOk X "count" (bltF .count) := by
  intro dx ds d e
  match dx, ds, e with
  | .list xs, [z], e =>
    obtain ⟨e1, e2⟩ := gd_ok e
    injection e2 with e2; subst e2
    rw [Bool.and_eq_true] at e1
    refine ⟨_, _, mk_count, fun bd v H r => ty_lst r, fun bd v vs H Q hb r rs q => ?_⟩
    obtain ⟨u, rfl, ru⟩ := tl1 rs
    obtain ⟨a1, a2, a3, a4⟩ := shaped_two r ru e1.1 e1.2
    obtain ⟨a, ws, rfl, _⟩ := r.listI
    exact mt_any (mt_countD hu) ⟨a, u, z, xs, rfl, rfl, a1, a2, a3, a4, q _ H (Same.refl _) (.int _)⟩
  | .str x, [.str y], e =>
    injection e with e; subst e
    refine ⟨_, _, mk_countS, fun bd v H r => ty_str r, fun bd v vs H Q hb r rs q => ?_⟩
    obtain ⟨u, rfl, ru⟩ := tl1 rs
    obtain ⟨rfl, o⟩ := r.strI
    obtain ⟨rfl, o2⟩ := ru.strI
    exact mt_any mt_count ⟨x, y, rfl, rfl, q _ H (Same.refl _) (.int _)⟩
theorem findIdx_ex {xs : List D} {d : D} {j : Nat} (h : findAt xs d = some j) : ∃ z, xs[j]? = some z ∧ PyData.eqv z d = true ∧ ∀ (m : Nat) (z' : PyData), m < j → xs[m]? = some z' → PyData.eqv z' d = false := by
  unfold findAt at h
  rw [List.findIdx?_eq_some_iff_getElem] at h
  obtain ⟨hj, h1, h2⟩ := h
  refine ⟨xs[j], List.getElem?_eq_getElem hj, h1, fun m z' hm e => ?_⟩
  have hml : m < xs.length := by omega
  rw [List.getElem?_eq_getElem hml] at e
  cases e
  simpa using h2 m hm
theorem mto_index (hu : X.A.units + 65 < cLine) : MtOk X "index" (bltF .index) := by
  intro dx ds d e
  match dx, ds, e with
  | .list xs, [z], e =>
    obtain ⟨e1, e2⟩ := gd_ok e
    obtain ⟨j, e3, e4⟩ := bind_okI e2
    injection e4 with e4; subst e4
    have e3 : findAt xs z = some j := by
      cases hp : findAt xs z with
      | none => rw [hp] at e3; cases e3
      | some y => rw [hp] at e3; cases e3; rfl
    rw [Bool.and_eq_true] at e1
    refine ⟨_, _, mk_index, fun bd v H r => ty_lst r, fun bd v vs H Q hb r rs q => ?_⟩
    obtain ⟨u, rfl, ru⟩ := tl1 rs
    obtain ⟨a1, a2, a3, a4⟩ := shaped_two r ru e1.1 e1.2
    obtain ⟨a, ws, rfl, _⟩ := r.listI
    obtain ⟨y, f1, f2, f3⟩ := findIdx_ex e3
    exact mt_any (mt_indexD hu) ⟨a, u, z, xs, j, y, rfl, rfl, a1, a2, a3, a4, f1, f2, f3, q _ H (Same.refl _) (.int _)⟩
end
end BT
set_option Elab.async false
set_option linter.all false
set_option maxRecDepth 100000
set_option maxHeartbeats 8000000
/-! BTZip: zip of two lists, or two tuples. -/
namespace BT
open PySem PySem.Spec PyProof.Rows L2 RZ
section
variable {X : Cx} {W : WishX} {lin : Lc}
theorem walk_zip2 {K : PySem.W.Frag} {a b : Addr} {xs ys : List V} {n : Nat} (hn : n = min xs.length ys.length) : Walk (ItzT K a b) n (fun H => SqT K H a xs ∧ SqT K H b ys) (YPair (fun i => xs[i]?) (fun i => ys[i]?)) := by
  subst hn
  refine ⟨fun i _ hi q => ?_, fun _ q => ⟨xs, ys, q.1, q.2, by omega⟩, fun i H v H' _ q y => ?_⟩
  · have g1 : i < xs.length := by omega
    have g2 : i < ys.length := by omega
    exact ⟨xs, ys, xs[i], ys[i], q.1, q.2, by simp [g1], by simp [g2]⟩
  · obtain ⟨T, x, z, g1, g2, g3, g4, g5⟩ := y
    exact ⟨T, x, z, g1, g2, g3, g4 xs q.1, g5 ys q.2⟩
theorem zip_item {bd' : Addr → Prop} {vs us : List V} {xs ys : List D} {H H' : Hp} {i : Nat} {v : V} (t : RepL X.prog X.w H bd' vs xs) (u : RepL X.prog X.w H bd' us ys) (y : YPair (fun i => vs[i]?) (fun i => us[i]?) i H v H') :
    Same H H' ∧ ∃ d, ((xs.zip ys).map fun p => (.tuple [p.1, p.2] : D))[i]? = some d ∧ RepI X.prog X.w H' bd' true v d := by
  obtain ⟨T, a, b, rfl, hT, rfl, e1, e2⟩ := y
  have sm := same_upd (o := .tup [a, b]) hT
  obtain ⟨d1, f1, r1⟩ := t.get e1
  obtain ⟨d2, f2, r2⟩ := u.get e2
  refine ⟨sm, .tuple [d1, d2], ?_, .inr ⟨rfl, T, [a, b], [d1, d2], rfl, rfl, upd_same, .cons (Rep.same r1 sm) (.cons (Rep.same r2 sm) .nil)⟩⟩
  rw [List.getElem?_map, List.zip, List.getElem?_zipWith, f1, f2]; rfl
theorem i_zip {e e2 : Expr} {p pos tpos : Pos} {elts : List Expr} {kk : Nat} {g : En → R (List D)} (hg : Gl X "zip") (hm : X.mg "zip" = none) (ha : PA X [e, e2] (AR X W lin g)) (hs : starEach [e, e2] X.env = (false, eval e X.env) :: starEach [e2] X.env) (hpl : (backTo pos (starEach [e2] X.env)).any (·.1) = false) (b : Bool) :
    PI X (.Tuple elts kk tpos) (.Call (.Name "zip" p) [e, e2] [] pos) (IR X W lin b true fun r => (g r).bind (itemsF .zip)) := by
  refine pi_imp (pi_zipA hg hm ha hs hpl) fun σ H Q h => ?_
  obtain ⟨bd, r, hb, hen, q⟩ := h
  refine ⟨bd, r, hb, hen, ?_⟩
  cases e1 : g r with
  | bad => simp only [e1, R.bind_bad] at q
  | exc c => simp only [e1, R.bind_exc] at q; exact q
  | ok ds =>
    simp only [e1, R.bind_ok] at q
    intro vs H1 s1 rs
    match ds, rs, q with
    | [.list xs, .list ys], rs, q =>
      cases rs with
      | cons r1 rs =>
        cases rs with
        | cons r2 rs =>
          cases rs
          cases r1 with
          | lst na ra la ta =>
            cases r2 with
            | lst nb rb lb tb =>
              rename_i a us b' ws
              refine ⟨a, b', us, ws, rfl, .inl ⟨SqL.of ra, SqL.of rb, q _ H1 s1 ⟨⟨fun H' => SqL X.K H' a us ∧ SqL X.K H' b' ws, _, walk_zip (by rw [List.length_map, List.length_zip, ta.length, tb.length]), fun H' k => ⟨SqL.of (k.at (.inr na) ra), SqL.of (k.at (.inr nb) rb)⟩, fun bd' gr i H' x H3 hi hb' k y => zip_item (k.repLG gr ta) (k.repLG gr tb) y⟩, ?_⟩⟩⟩
              rw [List.length_map, List.length_zip]
              have := ta.length
              omega
    | [.tuple xs, .tuple ys], rs, q =>
      cases rs with
      | cons r1 rs =>
        cases rs with
        | cons r2 rs =>
          cases rs
          cases r1 with
          | tup na ra la ta =>
            cases r2 with
            | tup nb rb lb tb =>
              rename_i a us b' ws
              refine ⟨a, b', us, ws, rfl, .inr ⟨ra.sq, rb.sq, q _ H1 s1 ⟨⟨fun H' => SqT X.K H' a us ∧ SqT X.K H' b' ws, _, walk_zip2 (by rw [List.length_map, List.length_zip, ta.length, tb.length]), fun H' k => ⟨(ra.at fun _ => k.at (.inr na)).sq, (rb.at fun _ => k.at (.inr nb)).sq⟩, fun bd' gr i H' x H3 hi hb' k y => zip_item (k.repLG gr ta) (k.repLG gr tb) y⟩, ?_⟩⟩⟩
              rw [List.length_map, List.length_zip]
              have := ta.length
              omega
end
end BT
set_option Elab.async false
set_option linter.all false
set_option maxRecDepth 100000
set_option maxHeartbeats 8000000
/-! BTEnu: enumerate of a list, or of a tuple. -/
namespace BT
open PySem PySem.Spec PyProof.Rows L2
open AutoSeq1 (wpAny_loadPart')
/-- enumerate(t) is made, t a tuple -/
theorem enu_made (t : Addr) (items : Array Value) : Meets (Builtin.«enumerate.__new__» ⟨[.type "enumerate", .ref t], []⟩) (fun _ R s => s.heap.IsTuple t items ∧
      R (.ok (.ret (.ref (s.heap.push { cls := .type "tuple_iterator", data := .fields #[.ref t, .int 0 0] }).objs.size)))
        { s with heap := (s.heap.push { cls := .type "tuple_iterator", data := .fields #[.ref t, .int 0 0] }).push { cls := .type "enumerate", data := .fields #[.none, .bool false, .ref s.heap.objs.size, rawInt 0, .none, .none] } }) :=
  .of_wp fun prog w A R s q => by
    obtain ⟨hp, gl, dp, tk, os⟩ := s
    obtain ⟨hT, q⟩ := q
    have hsub := sub_enumerate
    have i1 : ∀ {A2 : Around} {E : Value → Shared → Prop} {Q : Value → Shared → Prop}, Q (.ref hp.objs.size) ⟨hp.push { cls := .type "tuple_iterator", data := .fields #[.ref t, .int 0 0] }, gl, dp, tk, os⟩ → wpAny (model prog w) A2 (pyIter (.ref t)) Q E ⟨hp, gl, dp, tk, os⟩ := fun z => wpAny_pyIter_tuple hT z
    wp_walk using i1
    refine wpAny_stack_any fun st => wpAny_pure ?_
    split
    · rename_i cc _ _ _ _ _
      cases (cc == Value.type "enumerate") <;> (wp_walk using i1; exact ⟨_, rfl, q⟩)
    · wp_walk using i1
      exact ⟨_, rfl, q⟩
theorem enu_call {prog : Program} {w : World} {A : Around} {E : Value → Shared → Prop} {s : Shared} {t : Addr} {items : Array Value} {Q : Value → Shared → Prop} (hT : s.heap.IsTuple t items)
    (q : ∀ h2, IsEnum h2 (s.heap.objs.size + 1) s.heap.objs.size 0 .none → h2.IsTupleIter s.heap.objs.size t 0 → (∀ b o, s.heap.get? b = some o → h2.get? b = some o) → Q (.ref (s.heap.objs.size + 1)) { s with heap := h2 }) :
    wpAny (model prog w) A (call (.type "enumerate") [.ref t]) Q E s := by
  refine callType_new F.called_enumerate (by decide) (F.typeCall_enumerate_1 _) (F.newCall_enumerate_1 _) (fun ob => F.args_object_init_2 ob _) F.entry_enumerate_new (enu_made t items) ⟨hT, ?_⟩
  have z1 : (s.heap.push { cls := .type "tuple_iterator", data := .fields #[.ref t, .int 0 0] }).objs.size = s.heap.objs.size + 1 := by rw [Heap.size_push]
  show _ ∧ _
  rw [z1]
  have z2 := Heap.get?_push_size (s.heap.push { cls := .type "tuple_iterator", data := .fields #[.ref t, .int 0 0] }) (o := { cls := .type "enumerate", data := .fields #[.none, .bool false, .ref s.heap.objs.size, rawInt 0, .none, .none] }) rfl
  rw [z1] at z2
  exact ⟨⟨_, z2, rfl⟩, q _ z2 ⟨_, Heap.get?_push_of_some _ (Heap.get?_push_size _ rfl), rfl, rfl⟩ fun b o x => Heap.get?_push_of_some _ (Heap.get?_push_of_some _ x)⟩
/-- the tuple at a, each item in a new pair -/
def IteT (K : PySem.W.Frag) (a : Addr) : It where
  go := fun i H => ∃ (xs : List V) (x : V), SqT K H a xs ∧ xs[i]? = some x
  yld := fun i H v H2 => ∃ p x, v = .ref p ∧ H p = none ∧ H2 = upd H p (.tup [.int (i : Nat), x]) ∧ ∀ xs, SqT K H a xs → xs[i]? = some x
  stop := fun i H => ∃ xs : List V, SqT K H a xs ∧ xs.length ≤ i
theorem enu_turn {P : Program} {w : World} {K : PySem.W.Frag} {elts : List Expr} {kk : Nat} {tpos : Pos} (a e it : Addr) (hei : e ≠ it) (hai : a ≠ it) (hae : a ≠ e) :
    Turn P w K (.Tuple elts kk tpos) (IteT K a) [e, it] e (fun i h => (∃ old, IsEnum h e it ((i : Nat) : Int) old) ∧ h.IsTupleIter it a i) where
  mem := by simp
  obj := fun i h ⟨⟨old, he⟩, ⟨o, ho, hc, hd⟩⟩ b hb => by
    rcases List.mem_cons.mp hb with z | z
    · rw [z]; exact ⟨_, he, fun v q => nomatch q⟩
    · rw [List.mem_singleton.mp z]; exact ⟨o, ho, fun v q => by rw [hd] at q; cases q⟩
  keep := fun i h h2 ⟨⟨old, he⟩, hi⟩ k => ⟨⟨old, k e (by simp) _ he⟩, hi.at fun o q => k it (by simp) o q⟩
  item := by
    intro X hP hw hK hc i pins s σ H E I hf hst hgo
    subst hP hw hK
    obtain ⟨⟨old, he⟩, hit⟩ := hst
    obtain ⟨xs, x, hq, hx⟩ := hgo
    obtain ⟨its, rv, tp, hz⟩ := I.tuple hq
    obtain ⟨u, hu, ru⟩ := rv.get hx
    have hel := Heap.lt_size he
    have hil : it < s.heap.objs.size := by obtain ⟨_, q, _⟩ := hit; exact Heap.lt_size q
    have D := Draws.tuple (prog := X.prog) (w := X.w) (A := X.A.in1) (I.ok.hd hc) it a hai its.toArray
    have hlt : i < its.toArray.size := by
      rw [List.size_toArray]
      exact (List.getElem?_eq_some_iff.mp hu).1
    refine wpAny_pyNext_enum_itemD D he ⟨hit, tp⟩ hlt hei (by simp [Ne.symm hae, hei]) fun y h1 tk hy ho hs1 hT hsz hk => ?_
    have ey : y = u := by
      have : its.toArray[i]? = some u := by simpa using hu
      rw [this] at hy; exact (Option.some.inj hy).symm
    subst ey
    refine ⟨.ref s.heap.objs.size, rfl, wpAny_letOwnedTupleGo_enum (s := { s with heap := h1, toks := tk + 1 }) ho fun h2 he2 sb => ?_⟩
    have hT2 := (sb.2 _ (Nat.ne_of_gt hel)).trans hT
    have nw : ObjOk X.prog X.w (upd H s.heap.objs.size (.tup [.int (i : Nat), x])) h2 s.heap.objs.size (.tup [.int (i : Nat), x]) :=
      ⟨by show 2 ≤ sizeLine; decide, [.int i tk, y], .cons ⟨_, rfl⟩ (.cons ru .nil), ⟨_, hT2, rfl, _, rfl⟩⟩
    have I1 : Inv X pins σ (upd H s.heap.objs.size (.tup [.int (i : Nat), x])) { s with heap := h2, toks := tk + 1 } :=
      I.turnedNew (ch := [e, it]) (fun b ob hb q => (sb.2 b (fun z => hb (by simp [z]))).trans (hk b ob (fun z => hb (by simp [z])) (fun z => hb (by simp [z])) q)) hf (Nat.le_refl _) nw
    refine ⟨.ref s.heap.objs.size, _, I1, rfl, ⟨_, x, rfl, I.hok.fresh (Nat.le_refl _), rfl, fun ys hy2 => by rw [I.tuple_inj hy2 hq]; exact hx⟩, ⟨⟨y, ?_⟩, hs1.1.at fun o q => (sb.2 it (Ne.symm hei)).trans q⟩, fun b hb => ?_⟩
    · rw [show ((i + 1 : Nat) : Int) = (i : Int) + 1 by omega]; exact he2
    · have hb2 : b < s.heap.objs.size := by
        rcases List.mem_cons.mp hb with z | z
        · rw [z]; exact hel
        · rw [List.mem_singleton.mp z]; exact hil
      rw [upd_ne (Nat.ne_of_lt hb2)]
      exact (hf b hb).1
  done := by
    intro X hP hw hK hc i pins s σ H E I hf hst hgo
    subst hP hw hK
    obtain ⟨⟨old, he⟩, hit⟩ := hst
    obtain ⟨xs, hq, hx⟩ := hgo
    obtain ⟨its, rv, tp, hz⟩ := I.tuple hq
    obtain ⟨f0, f1, f2, f3, f4, f5⟩ := hf it (by simp)
    have hl := rv.length
    have hT : s.TypeIs (.ref e) "enumerate" := ⟨_, he, rfl⟩
    unfold pyNext
    refine wpAny_bind (wpAny_attempt (wpAny_callSpecial?_slot (name := Str.ofString "__next__") hT F.slot_enumerate_next (wpAny_call_entry F.slot_enumerate_next hT F.entry_enumerate_next ?_ (F.args_enumerate_next_1 _))))
    show wpAny _ _ (field (.ref e) 2 >>= _) _ _ _
    refine wpAny_bind (wpAny_field he rfl (x := .ref it) rfl ?_)
    refine wpAny_bind (wpAny_nextOf_tuple_end (I.ok.hd hc) hit tp (by simp; omega) fun h2 x2 he2 hx2 => ?_)
    obtain ⟨o, ho, hcl⟩ := hx2
    refine wpAny_bind (wpAny_isInstance (T := "StopIteration") (b := true) ⟨o, ho, hcl⟩ isSubtype_stop ?_)
    exact wpAny_pure ⟨rfl, I.turned (t' := s.toks) (fun b o hb q => he2 b o hb q) f0 f1 f3 f4 f5⟩
  self := fun A i s Q E ⟨⟨_, he⟩, _⟩ q => wpAny_pyIter_enum he q
section
variable {X : Cx} {W : WishX} {lin : Lc}
theorem walk_enuT {K : PySem.W.Frag} {a : Addr} {xs : List V} : Walk (IteT K a) xs.length (fun H => SqT K H a xs) (YPair (fun i => some (.int (i : Nat))) (fun i => xs[i]?)) := by
  refine ⟨fun i _ hi q => ⟨xs, xs[i], q, by simp [hi]⟩, fun _ q => ⟨xs, q, Nat.le_refl _⟩, fun i H v H2 _ q y => ?_⟩
  obtain ⟨p, x, g1, g2, g3, g4⟩ := y
  exact ⟨p, .int (i : Nat), x, g1, g2, g3, rfl, g4 xs q⟩
/-- enumerate of a list or a tuple -/
def iEnuA (K : PySem.W.Frag) (ta : TA) : TI := fun σ H R => ta σ H fun vs H1 => ∃ a xs, vs = [.ref a] ∧ ((SqL K H1 a xs ∧ R (Ite K a) H1) ∨ (SqT K H1 a xs ∧ R (IteT K a) H1))
theorem pi_enuA {e : Expr} {ta : TA} {p pos tpos : Pos} {elts : List Expr} {kk : Nat} (hg : Gl X "enumerate") (hm : X.mg "enumerate" = none) (ha : PA X [e] ta) (hs : starEach [e] X.env = [(false, eval e X.env)]) :
    PI X (.Tuple elts kk tpos) (.Call (.Name "enumerate" p) [e] [] pos) (iEnuA X.K ta) := by
  refine ⟨fun pins s σ H R I h => ?_⟩
  refine Call_ (ld_blt I hg hm boot_enumerate (PyProof.Rows.callWith_type1 (thn (ha.run pos pins s σ H _ I h) fun us s1 ⟨vs, H1, I1, r1, q1⟩ => ?_) hs rfl))
  obtain ⟨a, xs, ex, q1⟩ := q1
  subst ex
  obtain ⟨u, rfl, ru⟩ := vals1 r1
  cases ru
  have fr : ∀ b, b ∈ [s1.heap.objs.size + 1, s1.heap.objs.size] → FpOk X pins H1 b := fun b hb => by
    have hle : s1.heap.objs.size ≤ b := by
      rcases List.mem_cons.mp hb with z | z
      · rw [z]; exact Nat.le_add_right _ _
      · rw [List.mem_singleton.mp z]; exact Nat.le_refl _
    exact I1.fpOk hle (I1.hok.fresh hle)
  rcases q1 with ⟨hq, q⟩ | ⟨hq, q⟩
  · obtain ⟨its, rv, pl, hz⟩ := I1.list hq
    exact call_enumerate_list pl.isList fun h2 he hit hsz hk => wpAny_pyIter_enum he ⟨s1.heap.objs.size + 1, _, _, _, H1, rfl, I1.kept (t' := s1.toks) hk, turn_enum a (s1.heap.objs.size + 1) s1.heap.objs.size, ⟨⟨.none, he⟩, hit, Nat.succ_ne_self _⟩, fr, q⟩
  · obtain ⟨its, rv, tp, hz⟩ := I1.tuple hq
    have hal : a < s1.heap.objs.size := by obtain ⟨_, e1, _⟩ := tp; exact Heap.lt_size e1
    exact enu_call tp fun h2 he hit hk => wpAny_pyIter_enum he ⟨s1.heap.objs.size + 1, _, _, _, H1, rfl, I1.kept (t' := s1.toks) hk, enu_turn a (s1.heap.objs.size + 1) s1.heap.objs.size (Nat.succ_ne_self _) (Nat.ne_of_lt hal) (Nat.ne_of_lt (Nat.lt_succ_of_lt hal)), ⟨⟨.none, he⟩, hit⟩, fr, q⟩
theorem enu_item {bd' : Addr → Prop} {vs : List V} {xs : List D} {H H' : Hp} {i : Nat} {v : V} (t : RepL X.prog X.w H bd' vs xs) (y : YPair (fun i => some (.int (i : Nat))) (fun i => vs[i]?) i H v H') :
    Same H H' ∧ ∃ d, ((xs.zipIdx).map fun p => (.tuple [.int p.2, p.1] : D))[i]? = some d ∧ RepI X.prog X.w H' bd' true v d := by
  obtain ⟨p, a, b, rfl, hp, rfl, e1, e2⟩ := y
  injection e1 with e1; subst e1
  have sm := same_upd (o := .tup [.int (i : Nat), b]) hp
  obtain ⟨d, f2, r2⟩ := t.get e2
  refine ⟨sm, .tuple [.int i, d], ?_, .inr ⟨rfl, p, [.int i, b], [.int i, d], rfl, rfl, upd_same, .cons (.int _) (.cons (Rep.same r2 sm) .nil)⟩⟩
  rw [List.getElem?_map, List.getElem?_zipIdx, f2]
  simp
theorem i_enum {e : Expr} {p pos tpos : Pos} {elts : List Expr} {kk : Nat} {g : En → R (List D)} (hg : Gl X "enumerate") (hm : X.mg "enumerate" = none) (ha : PA X [e] (AR X W lin g)) (hs : starEach [e] X.env = [(false, eval e X.env)]) (b : Bool) :
    PI X (.Tuple elts kk tpos) (.Call (.Name "enumerate" p) [e] [] pos) (IR X W lin b true fun r => (g r).bind (itemsF .enum)) := by
  refine pi_imp (pi_enuA hg hm ha hs) fun σ H Q h => ?_
  obtain ⟨bd, r, hb, hen, q⟩ := h
  refine ⟨bd, r, hb, hen, ?_⟩
  cases e1 : g r with
  | bad => simp only [e1, R.bind_bad] at q
  | exc c => simp only [e1, R.bind_exc] at q; exact q
  | ok ds =>
    simp only [e1, R.bind_ok] at q
    intro vs H1 s1 rs
    match ds, rs, q with
    | [.list xs], rs, q =>
      cases rs with
      | cons r1 rs =>
        cases rs
        cases r1 with
        | lst na ra la ta =>
          rename_i a us
          have hl : ((xs.zipIdx).map fun p => (.tuple [.int p.2, p.1] : D)).length = us.length := by simp [ta.length]
          exact ⟨a, us, rfl, .inl ⟨SqL.of ra, q _ H1 s1 ⟨⟨fun H' => SqL X.K H' a us, _, by rw [hl]; exact walk_enum, fun H' k => SqL.of (k.at (.inr na) ra), fun bd' gr i H' x H3 hi hb' k y => enu_item (k.repLG gr ta) y⟩, by rw [hl]; exact la⟩⟩⟩
    | [.tuple xs], rs, q =>
      cases rs with
      | cons r1 rs =>
        cases rs
        cases r1 with
        | tup na ra la ta =>
          rename_i a us
          have hl : ((xs.zipIdx).map fun p => (.tuple [.int p.2, p.1] : D)).length = us.length := by simp [ta.length]
          exact ⟨a, us, rfl, .inr ⟨ra.sq, q _ H1 s1 ⟨⟨fun H' => SqT X.K H' a us, _, by rw [hl]; exact walk_enuT, fun H' k => (ra.at fun _ => k.at (.inr na)).sq, fun bd' gr i H' x H3 hi hb' k y => enu_item (k.repLG gr ta) y⟩, by rw [hl]; exact la⟩⟩⟩
end
end BT
set_option Elab.async false
set_option linter.all false
set_option maxRecDepth 100000
set_option maxHeartbeats 8000000
/-! BTSrt: sorted(list), sorted(tuple). -/
namespace BT
open PySem PySem.Spec PyProof.Rows L2
section
variable {prog : Program} {w : World} {A : Around} {E : Value → Shared → Prop} {s : Shared}
/-- the items of a tuple, gathered -/
theorem collect_tup {t : Addr} {vs : List Value} {Q : List Value → Shared → Prop} (ht : IsTup s.heap t vs.toArray) (hz : vs.length ≤ sizeLine)
    (h : Q vs { s with heap := (s.heap.push (seqObj "list" #[] 0)).update s.heap.objs.size (Obj.mapSeq (· ++ vs.toArray)) }) : wpAny (model prog w) A (collect (.ref t)) Q E s := by
  obtain ⟨o, ho, hc, n, hd⟩ := ht
  unfold collect
  refine wpAny_bind (wpAny_runValue (codeAny_builtin entry_proto_collect' ?_))
  show wpAny _ _ (do again (.builtin "list.__iadd__" ⟨[← newList [], .ref t], []⟩)) _ _ s
  refine wpAny_bind (wpAny_newList (wpAny_pure ⟨Code.quiet_builtin _ (by decide +kernel), codeAny_builtin entry_list_iadd' ?_⟩))
  have ho' : (s.heap.push (seqObj "list" #[] 0)).get? t = some o := Heap.get?_push_of_some _ ho
  show wpAny _ _ (Builtin.List.listExtendWith (.ref s.heap.objs.size) (.ref t) (.ref s.heap.objs.size)) _ _ { s with heap := s.heap.push (seqObj "list" #[] 0) }
  unfold Builtin.List.listExtendWith
  refine wpAny_bind (wpAny_typeOf (T := "tuple") ⟨o, ho', hc⟩ ?_)
  have hty : (Value.type "tuple" == Value.type "tuple") = true := rfl
  rw [if_pos (by rw [hty]; simp)]
  refine wpAny_bind (listItems_at ho' hd ?_)
  have hnew : (s.heap.push (seqObj "list" #[] 0)).get? s.heap.objs.size = some (seqObj "list" #[] 0) := Heap.get?_push_size _ rfl
  refine wpAny_bind (listItems_at (xs := #[]) (n := 0) hnew rfl ?_)
  rw [if_neg (by simp)]
  refine wpAny_bind (listUpdate_at (xs := #[]) (n := 0) hnew rfl ?_ (Nat.zero_le _) (by show (#[] ++ vs.toArray).size ≤ sizeLine + 1; rw [Array.size_append, List.size_toArray]; simp; omega))
  refine wpAny_pure ?_
  refine wpAny_bind (m := load s.heap.objs.size) (wpAny_load (get?_update_seq hnew _) ?_)
  show wpAny _ _ (pure ((#[] : Array Value) ++ vs.toArray).toList) Q E _
  have e : ((#[] : Array Value) ++ vs.toArray).toList = vs := by simp
  rw [e]
  exact wpAny_pure h
theorem sorted_tup {t : Addr} {vs : List Value} {Q : Value → Shared → Prop} (ht : IsTup s.heap t vs.toArray) (hL : vs.length ≤ sizeLine)
    (body : ∀ E' : Value → Shared → Prop, wpAny (model prog w) A.in1.in1 (Builtin.«list.sort» ⟨[.ref (s.heap.objs.size + 1)], []⟩) (fun f s' => f = .done (.ret .none) ∧ Q (.ref (s.heap.objs.size + 1)) s') E' { s with heap := PySem.W.copyHeap s.heap vs }) :
    wpAny (model prog w) A (call (.builtin "sorted") [.ref t]) Q E s := by
  refine call_function_entry_kw kind_sorted plain_sorted entry_sorted (args_sorted1 _) ?_
  unfold Builtin.«sorted»
  refine wpAny_bind (m := checkCount "sorted" 1 1 _) (wpAny_pure ?_)
  refine wpAny_bind (collect_tup ht hL ?_)
  refine wpAny_bind (wpAny_newList ?_ hL)
  have hsz : ((s.heap.push (seqObj "list" #[] 0)).update s.heap.objs.size (Obj.mapSeq (· ++ vs.toArray))).objs.size = s.heap.objs.size + 1 := by
    rw [Heap.size_update, size_push']
  show wpAny _ _ _ _ _ { s with heap := PySem.W.copyHeap s.heap vs }
  rw [hsz]
  refine wpAny_bind (wpAny_holding (wpAny_call_entry_kw slot_list_sort ⟨_, PySem.W.copyHeap_at s.heap vs, rfl⟩ entry_list_sort ?b (args_list_sort _)))
  case b =>
    refine wpAny_mono (body _) (fun f s' hf => ?_) fun _ _ e => e
    obtain ⟨rfl, hq⟩ := hf
    exact ⟨_, rfl, wpAny_pure ⟨_, rfl, hq⟩⟩
end
section
variable {X : Cx} {pins : List (Addr × Obj)} {σ : L2.St} {H : Hp} {s : Shared} {bd : Addr → Prop}
/-- what an item stands for -/
def ItR (X : Cx) (H : Hp) (bd : Addr → Prop) (u : Value) (d : D) : Prop := ∃ v, RelV v u ∧ Rep X.prog X.w H bd v d
theorem each_of : ∀ {vs : List V} {us : List Value} {ds : List D}, RepL X.prog X.w H bd vs ds → Vals vs us → PySem.W.EachIs (ItR X H bd) us ds
  | _, _, [], h, r => by cases h; cases r; exact .nil
  | _, _, d :: ds, h, r => by
    cases h with
    | cons a t => cases r with | cons ra rt => exact .cons ⟨_, ra, a⟩ (each_of t rt)
theorem of_each : ∀ {us : List Value} {ds : List D}, PySem.W.EachIs (ItR X H bd) us ds → ∃ vs, Vals vs us ∧ RepL X.prog X.w H bd vs ds
  | _, _, .nil => ⟨[], .nil, .nil⟩
  | _, _, .cons a t => by
    obtain ⟨v, r1, r2⟩ := a
    obtain ⟨vs, h1, h2⟩ := of_each t
    exact ⟨v :: vs, .cons r1 h1, .cons r2 h2⟩
theorem each_reads (I : Inv X pins σ H s) : ∀ {vs : List V} {us : List Value} {ds : List D}, RepL X.prog X.w H bd vs ds → Vals vs us → shalL 60 ds = true → PySem.W.EachIs (fun v b => ∃ as, Reads s.heap v (id b) as) us ds
  | _, _, [], h, r, _ => by cases h; cases r; exact .nil
  | _, _, d :: ds, h, r, hs => by
    simp only [shalL, Bool.and_eq_true] at hs
    cases h with
    | cons a t =>
      cases r with
      | cons ra rt => exact .cons (Dp.reads I d _ _ (Rep.dp d 60 _ a hs.1).1 ra) (each_reads I t rt hs.2)
theorem depth_le : ∀ {ds : List D}, shalL 60 ds = true → (∃ vs, RepL X.prog X.w H bd vs ds) → ∀ b ∈ ds, b.depth ≤ 60
  | [], _, _, b, hb => nomatch hb
  | d :: ds, hs, ⟨vs, h⟩, b, hb => by
    simp only [shalL, Bool.and_eq_true] at hs
    cases h with
    | cons a t =>
      rcases List.mem_cons.mp hb with rfl | hb
      · exact (Rep.dp (K := X.K) b 60 _ a hs.1).2.2
      · exact depth_le hs.2 ⟨_, t⟩ b hb
theorem sort_prem {xs : List D} (h : sortOk xs = true) : PySem.W.AllAlike (xs.map id) ∧ PySem.W.Sortable (xs.map id) ∧ shalL 60 xs = true := by
  unfold sortOk at h
  simp only [Bool.and_eq_true, Bool.or_eq_true, List.all_eq_true] at h
  obtain ⟨⟨h1, h2⟩, h3⟩ := h
  rw [List.map_id]
  refine ⟨fun d hd d' hd' => h1 d hd d' hd', ?_, h2⟩
  rcases h3 with h3 | h3
  · refine .inl fun d hd => ?_
    have := h3 d hd
    split at this
    · exact ⟨_, _, rfl⟩
    · cases this
  · refine .inr fun d hd => ?_
    have := h3 d hd
    refine ⟨fun z => ?_, fun ys z => ?_⟩
    · rw [z] at this; cases this
    · rw [z] at this; cases this
def SortR (X : Cx) : List V → Hp → VK → Prop := fun vs H Q => ∃ bd x c xs, vs = [x] ∧ BadIn bd H ∧ RepT X.prog X.w H bd x c ∧ (c = .list xs ∨ c = .tuple xs) ∧ sortOk xs = true ∧ NewAt X H bd (.list (xs.mergeSort leD)) Q
theorem call_sorted_rep (hu : X.A.units + 64 < cLine) : CallR X (.builtin "sorted") (SortR X) := by
  intro pins s σ H vs us Q I rvs h
  obtain ⟨bd, x, c, xs, rfl, hb, rx, hc, hok, q⟩ := h
  obtain ⟨u, rfl, ru⟩ := vals1 rvs
  obtain ⟨p1, p2, p3⟩ := sort_prem hok
  have fin : ∀ {ws : List V} {its out : List Value}, RepL X.prog X.w H bd ws xs → ws.length ≤ sizeLine → out.length = xs.length → PySem.W.EachIs (ItR X H bd) out (xs.mergeSort (PySem.W.dataLe false id)) → EP X pins σ Q (.ref (s.heap.objs.size + 1)) { s with heap := sortedAll s.heap its out.toArray } := fun {ws its out} ta la ho eo => by
    have hlen : xs.length ≤ sizeLine := by rw [← ta.length]; exact la
    obtain ⟨vs', g1, g2⟩ := of_each eo
    obtain ⟨e, he⟩ := sortedAll_at s.heap its out.toArray
    have hf : H (s.heap.objs.size + 1) = none := I.hok.fresh (Nat.le_succ _)
    have hl' : vs'.length ≤ sizeLine := by rw [g1.length, ho]; exact hlen
    refine ⟨.ref (s.heap.objs.size + 1), upd H (s.heap.objs.size + 1) (.lst vs'), I.laid (t' := s.toks) (fun b o e => sortedAll_old e) (Nat.le_succ _) ?_, rfl, q _ _ hf (.lst upd_same hl' (RepL.go (Keep.of (same_upd hf)) (fun b z => z.imp id fun e => by rw [e]; exact hf) _ _ g2))⟩
    exact ⟨hl', out, e, g1, he⟩
  have dep : ∀ {ws : List V}, RepL X.prog X.w H bd ws xs → ∀ b ∈ xs, X.A.units + 2 + (id b).depth < cLine := fun {ws} ta b hb => by
    have := depth_le (X := X) (H := H) (bd := bd) p3 ⟨_, ta⟩ b hb
    show X.A.units + 2 + b.depth < cLine
    omega
  rcases hc with rfl | rfl
  · obtain ⟨a, ws, rfl, ra, la, ta⟩ := rx.listI
    cases ru
    obtain ⟨its, rv, pl, hz⟩ := I.list (SqL.of ra)
    have hlen : xs.length ≤ sizeLine := by rw [← ta.length]; exact la
    exact PySem.W.sorted_data (enc := id) (bs := xs) pl.isList (each_of ta rv) (each_reads I ta rv p3) p1 p2 hlen (dep ta) fun out ho eo => fin ta la ho eo
  · obtain ⟨a, ws, rfl, _, ra, la, ta⟩ := rx.tupI
    cases ru
    obtain ⟨its, rv, pl, hz⟩ := I.tuple ra.sq
    have hlen : xs.length ≤ sizeLine := by rw [← ta.length]; exact la
    have hli : its.length ≤ sizeLine := by rw [← rv.length]; exact la
    have e := each_of ta rv
    have er := each_reads I ta rv p3
    have er' : PySem.W.EachIs (fun v b => ∃ as, Reads (PySem.W.sortingHeap (PySem.W.copyHeap s.heap its) (s.heap.objs.size + 1) its) v (id b) as) its xs := er.mono fun _ _ ⟨as, r⟩ => ⟨as, PyProof.Rows.Reads.keeps (fun _ _ => PySem.W.sorting_copy_old) r⟩
    refine sorted_tup pl hli fun E' => PySem.W.list_sort_vals (s := { s with heap := PySem.W.copyHeap s.heap its }) (PySem.W.copyHeap_at s.heap its) (PySem.W.SortsAt.data (s := { s with heap := PySem.W.sortingHeap (PySem.W.copyHeap s.heap its) (s.heap.objs.size + 1) its }) (PySem.W.each_map (R := fun v d => ∃ as, Reads (PySem.W.sortingHeap (PySem.W.copyHeap s.heap its) (s.heap.objs.size + 1) its) v d as) id er') p1 p2 (PySem.W.bound_map (A := X.A.in1.in1) (dep ta))) hli ⟨rfl, ?_⟩
    exact fin ta la (by rw [PySem.W.sortVals_length false rfl]; exact e.length) (PySem.W.sortVals_data false e er' p1)
theorem blt_sortedS (hu : X.A.units + 64 < cLine) {c : D} {xs : List D} {d : D} {vs : List V} {Q : VK} (hb : BadIn bd H) (hc : c = .list xs ∨ c = .tuple xs) (rs : RepTL X.prog X.w H bd vs [c]) (e : R.gd (sortOk xs) (R.ok (PyData.list (xs.mergeSort leD))) = .ok d) (q : ∀ v H', Same H H' → Rep X.prog X.w H' bd v d → Q v H') : anyCall X (.builtin "sorted") vs H Q := by
  obtain ⟨e1, e2⟩ := gd_ok e
  injection e2 with e2; subst e2
  cases rs with
  | cons r t =>
    cases t
    exact ⟨_, call_sorted_rep hu, bd, _, c, xs, rfl, hb, r, hc, e1, fun p o hp hr => q _ _ (same_upd hp) (new_rep hb hp hr)⟩
end
end BT
set_option Elab.async false
set_option linter.all false
set_option maxRecDepth 100000
set_option maxHeartbeats 8000000
/-! BTSrd: sorted(d) of a dict with texts as keys. -/
namespace BT
open PySem PySem.Spec PyProof.Rows L2
theorem perm_uniq {α : Type} {R : α → α → Prop} (anti : ∀ a b, R a b → R b a → a = b) : ∀ {l m : List α}, l.Perm m → l.Pairwise R → m.Pairwise R → l = m
  | [], m, hp, _, _ => by rw [List.nil_perm.mp hp]
  | a :: l, [], hp, _, _ => by have := hp.length_eq; simp at this
  | a :: l, b :: m, hp, h1, h2 => by
    rw [List.pairwise_cons] at h1 h2
    have hab : a = b := by
      have ha : a ∈ b :: m := hp.subset (.head _)
      have hb : b ∈ a :: l := hp.symm.subset (.head _)
      rcases List.mem_cons.mp ha with e | ha
      · exact e
      · rcases List.mem_cons.mp hb with e | hb
        · exact e.symm
        · exact anti a b (h1.1 b hb) (h2.1 a ha)
    subst hab
    rw [perm_uniq anti (List.Perm.cons_inv hp) h1.2 h2.2]
abbrev SLe (a b : Str) : Prop := a.cps.toList ≤ b.cps.toList
theorem sle_anti (a b : Str) (h1 : SLe a b) (h2 : SLe b a) : a = b := by
  have : a.cps.toList = b.cps.toList := List.le_antisymm h1 h2
  cases a; cases b
  simp at this
  rw [this]
theorem rising_pair : ∀ {l : List Str} {p : Str}, risingS p l = true → (∀ x ∈ l, SLe p x) ∧ l.Pairwise SLe
  | [], p, _ => ⟨fun _ z => (nomatch z), .nil⟩
  | x :: l, p, h => by
    simp only [risingS, Bool.and_eq_true, Bool.not_eq_true'] at h
    obtain ⟨h1, h2⟩ := h
    rw [ltCps_eq, decide_eq_false_iff_not] at h1
    have hpx : SLe p x := h1
    obtain ⟨a, b⟩ := rising_pair h2
    refine ⟨fun y hy => ?_, .cons a b⟩
    rcases List.mem_cons.mp hy with rfl | hy
    · exact hpx
    · exact List.le_trans hpx (a y hy)
theorem sorted_pair {l : List Str} (h : sortedS l = true) : l.Pairwise SLe := by
  cases l with
  | nil => exact .nil
  | cons x l =>
    obtain ⟨a, b⟩ := rising_pair (show risingS x l = true from h)
    exact .cons a b
theorem leD_str {a b : Str} : leD (.str a) (.str b) = decide (SLe a b) := by
  have := congrFun (congrFun (PySem.W.dataLe_str (β := Str) id) a) b
  exact this
theorem sortS_eq {ks ys : List Str} (hp : ys.Perm ks) (hs : sortedS ys = true) : ys.map (PyData.str) = (ks.map PyData.str).mergeSort leD := by
  have e : (ks.map PyData.str).mergeSort leD = (ks.mergeSort fun a b => decide (SLe a b)).map PyData.str := by
    rw [← List.map_mergeSort (r := fun a b => decide (SLe a b)) (s := leD) (f := PyData.str)]
    intro a _ b _
    exact leD_str.symm
  rw [e]
  congr 1
  refine perm_uniq sle_anti (hp.trans (List.mergeSort_perm ks _).symm) (sorted_pair hs) ?_
  have := List.pairwise_mergeSort (le := fun a b : Str => decide (SLe a b)) (fun a b c h1 h2 => by
    rw [decide_eq_true_eq] at *
    exact List.le_trans h1 h2) (fun a b => by
    rw [Bool.or_eq_true, decide_eq_true_eq, decide_eq_true_eq]
    exact List.le_total a.cps.toList b.cps.toList) ks
  exact this.imp fun h => of_decide_eq_true h
section
variable {X : Cx}
theorem keys_of {P : Program} {w : World} {H : Hp} {bd : Addr → Prop} : ∀ {kvs : List (Key × V)} {ds : List (D × D)}, RepK P w H bd kvs ds → ∃ ks : List Str, kvs.map (·.1) = ks.map Sum.inr ∧ keysOf ds = ks.map PyData.str ∧ ∀ x ∈ ks, OkS x
  | _, [], h => by cases h; exact ⟨[], rfl, rfl, fun _ z => (nomatch z)⟩
  | _, (kd, d0) :: ds, h => by
    cases h with
    | cons o a t =>
      rename_i y v r
      obtain ⟨ks, h1, h2, h3⟩ := keys_of t
      refine ⟨y :: ks, by rw [List.map_cons, List.map_cons, h1], ?_, fun x hx => ?_⟩
      · show PyData.str y :: keysOf ds = _
        rw [h2]; rfl
      · rcases List.mem_cons.mp hx with rfl | hx
        · exact o
        · exact h3 x hx
theorem repL_str {P : Program} {w : World} {H : Hp} {bd : Addr → Prop} : ∀ {ys : List Str}, (∀ x ∈ ys, OkS x) → RepL P w H bd (ys.map V.str) (ys.map PyData.str)
  | [], _ => .nil
  | y :: ys, h => .cons (.str (h y (.head _))) (repL_str fun x hx => h x (.tail _ hx))
theorem blt_sorted (hcalm : X.calm = true) (hu : X.A.units + 64 < cLine) : BltOk X (.builtin "sorted") (bltF .sorted) := by
  intro ds d e bd vs H Q hb rs q
  match ds, e, rs with
  | [.list xs], e, rs => exact blt_sortedS hu hb (.inl rfl) rs e q
  | [.tuple xs], e, rs => exact blt_sortedS hu hb (.inr rfl) rs e q
  | [.dict kvs], e, rs =>
    obtain ⟨e1, e2⟩ := gd_ok e
    injection e2 with e2; subst e2
    rw [Bool.and_eq_true, decide_eq_true_eq] at e1
    cases rs with
    | cons r t =>
      cases t
      obtain ⟨a, rfl, _⟩ := r.dictI
      obtain ⟨ks, h1, h2, h3⟩ := viewK r e1.1
      obtain ⟨zs, k1, k2, k3⟩ := keys_of h2
      have hl : zs.length < 64 := by
        have z1 := congrArg List.length k2
        rw [List.length_map] at z1
        have z2 : (keysOf kvs).length = kvs.length := by unfold keysOf; rw [List.length_map]
        have := e1.2
        omega
      refine ⟨_, call_sortedD hcalm, a, ks, zs, rfl, .inl h1, k1, hl, fun ys p hp hs hf => ?_⟩
      have ok : ∀ x ∈ ys, OkS x := fun x hx => k3 x (hp.subset hx)
      rw [k2, ← sortS_eq hp hs] at q
      refine q _ _ (same_upd hf) (new_lst hb hf ?_ (repL_str ok))
      rw [List.length_map, hp.length_eq]
      exact Nat.le_trans (Nat.le_of_lt hl) (by decide)
  | [], e, _ => cases e
  | [.none], e, _ => cases e
  | [.bool _], e, _ => cases e
  | [.int _], e, _ => cases e
  | [.str _], e, _ => cases e
  | a :: b :: r, e, _ => cases a <;> cases e
end
end BT
set_option Elab.async false
set_option linter.all false
set_option maxRecDepth 100000
set_option maxHeartbeats 8000000
/-! BTSet: set(list of texts), its length, its sorted list. -/
namespace BT
open PySem PySem.Spec PyProof.Rows L2
def keyS : Int × Value → Str
  | (_, .str k _) => k
  | _ => Str.empty
def OneS (P : Program) (w : World) (e : Int × Value) : Prop := ∃ k tk, e = ((PySem.strKind P w).hash k, Value.str k tk)
/-- the texts of xs as a set at a -/
def SetS (P : Program) (w : World) (h : Heap) (a : Addr) (xs : List Str) : Prop :=
  ∃ o es ep t, h.get? a = some o ∧ o.ExactSet ∧ o.data = .set es ep t ∧ (∀ e ∈ es.toList, OneS P w e) ∧ (es.toList.map keyS).Nodup ∧ (∀ k, k ∈ es.toList.map keyS ↔ k ∈ xs) ∧
    es.size ≤ xs.length ∧ t.fits es.size = true ∧ Ris t.place.toList ∧ (w.params.followText "set-order" = true ∨ t.led = true)
section
variable {P : Program} {w : World} {h h' : Heap} {a : Addr} {xs : List Str}
theorem SetS.at (r : SetS P w h a xs) (k : ∀ o, h.get? a = some o → h'.get? a = some o) : SetS P w h' a xs :=
  let ⟨o, es, ep, t, ho, q⟩ := r
  ⟨o, es, ep, t, k o ho, q⟩
theorem ones_elems {l : List (Int × Value)} (g : ∀ e ∈ l, OneS P w e) : ElemsOf (PySem.strKind P w) l := fun e he => by
  obtain ⟨k, tk, rfl⟩ := g e he
  exact ⟨⟨k, strKind_is P w k tk, rfl⟩, rfl⟩
theorem one_is {e : Int × Value} (g : OneS P w e) (k : Str) : (PySem.strKind P w).is k e.2 = true ↔ keyS e = k := by
  obtain ⟨j, tk, rfl⟩ := g
  constructor
  · intro q; exact ((PySem.strKind P w).inj _ _ _ q (strKind_is P w j tk)).symm
  · intro q; have q' : j = k := q; subst q'; exact strKind_is P w j tk
theorem one_mem {l : List (Int × Value)} (g : ∀ e ∈ l, OneS P w e) (k : Str) : k ∈ l.map keyS ↔ ∃ e ∈ l, (PySem.strKind P w).is k e.2 = true := by
  rw [List.mem_map]
  exact ⟨fun ⟨e, he, q⟩ => ⟨e, he, (one_is (g e he) k).2 q⟩, fun ⟨e, he, q⟩ => ⟨e, he, (one_is (g e he) k).1 q⟩⟩
end
section
variable {P : Program} {w : World} {A : Around} {E : Value → Shared → Prop} {s : Shared} {a : Addr}
/-- what the table must keep -/
structure STab (P : Program) (w : World) (xs : List Str) (es : Array (Int × Value)) (t : SetTable) : Prop where
  one : ∀ e ∈ es.toList, OneS P w e
  nd : (es.toList.map keyS).Nodup
  mem : ∀ k, k ∈ es.toList.map keyS ↔ k ∈ xs
  len : es.size ≤ xs.length
  fit : t.fits es.size = true
  ris : Ris t.place.toList
  led : w.params.followText "set-order" = true ∨ t.led = true
theorem STab.setS {h : Heap} {xs : List Str} {es : Array (Int × Value)} {t : SetTable} {o : Obj} {ep : Nat} (T : STab P w xs es t) (ho : h.get? a = some o) (hx : o.ExactSet) (hd : o.data = .set es ep t) : SetS P w h a xs :=
  ⟨o, es, ep, t, ho, hx, hd, T.one, T.nd, T.mem, T.len, T.fit, T.ris, T.led⟩
theorem tail_add {g : Bool → Sem Unit} (hg : ∀ (b : Bool) (s₁ : Shared) (Q' : Unit → Shared → Prop), Q' () s₁ → wpAny (model P w) A (g b) Q' E s₁)
    {o : Obj} {es : Array (Int × Value)} {ep : Nat} {t : SetTable} {xs : List Str} {es1 : Array (Int × Value)} {t2 : SetTable} (ho : s.heap.get? a = some o) (hex : o.ExactSet) (hd : o.data = .set es ep t)
    (T : STab P w xs es1 t2) (hl : xs.length < scanBound) {wd : Bool} {R : Option Bool → Shared → Prop} (hR : ∀ h', Heap.SameBut a s.heap h' → SetS P w h' a xs → R (some true) { s with heap := h' }) :
    wpAny (model P w) A (do
        storeSet a es1 t2
        if (!wd && t2.tooFull) = true then do
            g (relayAll t2 es1 (SetTable.grown es1.size)).2.2
            storeSet a (relayAll t2 es1 (SetTable.grown es1.size)).1 (relayAll t2 es1 (SetTable.grown es1.size)).2.1
            pure (some true)
          else pure (some true)) R E s := by
  have b1 : es1.size < scanBound := Nat.lt_of_le_of_lt T.len hl
  refine wpAny_bind (wpAny_storeSet_of ho hd ?_ (fits_of_scanBound b1))
  have o1 := store_at (es' := es1) (t' := t2) ho hd
  have k1 := Heap.SameBut.update s.heap a (Obj.putSet es1 t2)
  split
  · have pm := relayAll_perm t2 es1 (SetTable.grown es1.size)
    have f3 := relayAll_fits t2 es1 (SetTable.grown es1.size)
    have r3 := relayAll_ris t2 es1 (SetTable.grown es1.size)
    have l3 := relayAll_led t2 es1 (SetTable.grown es1.size)
    generalize relayAll t2 es1 (SetTable.grown es1.size) = Z at pm f3 r3 l3 ⊢
    obtain ⟨es2, t3, gave⟩ := Z
    dsimp only at pm f3 r3 l3 ⊢
    have hsz : es2.size = es1.size := by have := pm.length_eq; simpa using this
    refine wpAny_bind (hg _ _ _ (wpAny_bind (wpAny_storeSet_of o1 rfl ?_ (fits_of_scanBound (by omega)))))
    have T2 : STab P w xs es2 t3 := ⟨fun e he => T.one e (pm.mem_iff.mp he), (pm.map keyS).nodup_iff.mpr T.nd, fun k => (pm.map keyS).mem_iff.trans (T.mem k), by rw [hsz]; exact T.len, f3, r3, T.led.imp id fun z => l3.trans z⟩
    exact wpAny_pure (hR _ (k1.trans (Heap.SameBut.update _ a _)) (T2.setS (store_at (es' := es2) (t' := t3) o1 rfl) hex rfl))
  · exact wpAny_pure (hR _ k1 (T.setS o1 hex rfl))
theorem setS_add {k : Str} {tk : Tok} {xs : List Str} {Q : Bool → Shared → Prop} (R : SetS P w s.heap a xs) (room : xs.length + 1 < scanBound)
    (hQ : ∀ b h', Heap.SameBut a s.heap h' → SetS P w h' a (xs ++ [k]) → Q b { s with heap := h' }) :
    wpAny (model P w) A (setAddHashed a (.str k tk) ((PySem.strKind P w).hash k)) Q E s := by
  obtain ⟨o, es, ep, t, ho, hex, hd, g, nd, hm, hb, hf, hr, hl⟩ := R
  have hkey : (PySem.strKind P w).is k (.str k tk) = true := strKind_is P w k tk
  have hel : ElemsOf (PySem.strKind P w) es.toList := ones_elems g
  unfold setAddHashed setAddHashedIn
  refine wpAny_holding (wpAny_bind (wpAny_setState_of ho hd hf ?_))
  dsimp only
  rw [byScan_of (x := .str k tk) rfl (by omega) hel]
  simp only [↓reduceIte]
  unfold setAddByScan
  refine wpAny_bind (wpAny_bind (wpAny_rule (wpAny_bind (wpAny_setScan_of hkey ho hd hf hel ?_))))
  cases hfi : List.findIdx? (fun e => (PySem.strKind P w).is k e.2) es.toList with
  | some j =>
    dsimp only
    obtain ⟨hj, pj, _⟩ := List.findIdx?_eq_some_iff_getElem.mp hfi
    have hk : k ∈ xs := (hm k).1 ((one_mem g k).2 ⟨_, List.getElem_mem hj, pj⟩)
    refine wpAny_pure (wpAny_pure ?_)
    refine hQ _ s.heap (Heap.SameBut.refl a s.heap) ⟨o, es, ep, t, ho, hex, hd, g, nd, fun i => ?_, by simp; omega, hf, hr, hl⟩
    rw [hm i, List.mem_append, List.mem_singleton]
    exact ⟨.inl, fun z => z.elim id fun e => e ▸ hk⟩
  | none =>
    dsimp only
    have hnk : k ∉ es.toList.map keyS := fun z => by
      obtain ⟨e, he, q⟩ := (one_mem g k).1 z
      have c := List.findIdx?_eq_none_iff.mp hfi e he
      simp only [q] at c
      cases c
    have pm := layNew_perm t es ((PySem.strKind P w).hash k) (.str k tk)
    have f1 := layNew_fits t es ((PySem.strKind P w).hash k) (.str k tk)
    have r1 := layNew_ris t es ((PySem.strKind P w).hash k) (.str k tk) hr
    have l1 := layNew_led t es ((PySem.strKind P w).hash k) (.str k tk)
    generalize layNew t es ((PySem.strKind P w).hash k) (.str k tk) = Z at pm f1 r1 l1 ⊢
    obtain ⟨es1, t1, wd, gave⟩ := Z
    dsimp only at pm f1 r1 l1 ⊢
    rw [Array.toList_push] at pm
    have pc : es1.toList.Perm (((PySem.strKind P w).hash k, Value.str k tk) :: es.toList) := pm.trans (List.perm_append_singleton _ _)
    have pk : (es1.toList.map keyS).Perm (k :: es.toList.map keyS) := pc.map keyS
    have hsz : es1.size = es.size + 1 := by have := pc.length_eq; simpa using this
    have T : STab P w (xs ++ [k]) es1 t1 := ⟨fun e he => by
        rcases List.mem_cons.mp (pc.mem_iff.mp he) with z | z
        · exact ⟨k, tk, z⟩
        · exact g e z,
      pk.nodup_iff.mpr (List.nodup_cons.mpr ⟨hnk, nd⟩), fun i => by rw [pk.mem_iff, List.mem_cons, hm i, List.mem_append, List.mem_singleton]; exact Or.comm, by simp; omega, f1, r1, hl.imp id fun z => l1.trans z⟩
    have T' : STab P w (xs ++ [k]) es1 { t1 with plain := false } := ⟨T.one, T.nd, T.mem, T.len, SetTable.fits_plain_off f1, T.ris, T.led⟩
    have hlen : (xs ++ [k]).length < scanBound := by simpa using room
    have gw : ∀ (b : Bool) (s₁ : Shared) (Q' : Unit → Shared → Prop), Q' () s₁ → wpAny (model P w) A (match b with | true => rule "set.scan.the-table-gave-way" | false => pure ()) Q' E s₁ :=
      fun b s₁ Q' q => by cases b <;> first | exact wpAny_pure q | exact wpAny_rule q
    refine wpAny_bind (gw _ _ _ ?_)
    split
    · refine wpAny_bind ?_
      rw [hashByValue_scannable 8 (x := .str k tk) rfl]
      refine wpAny_pure ?_
      refine tail_add ?_ ho hex hd (xs := xs ++ [k]) ?_ hlen ?_
      · intro b s₁ Q' q; cases b <;> first | exact wpAny_pure q | exact wpAny_rule q
      · first | (split <;> first | exact T | exact T') | exact T'
      · intro h' sb r; dsimp only; exact wpAny_pure (hQ _ h' sb r)
    · refine wpAny_bind (wpAny_pure ?_)
      simp only [↓reduceIte]
      refine tail_add ?_ ho hex hd T hlen ?_
      · intro b s₁ Q' q; cases b <;> first | exact wpAny_pure q | exact wpAny_rule q
      · intro h' sb r; dsimp only; exact wpAny_pure (hQ _ h' sb r)
end
end BT
set_option Elab.async false
set_option linter.all false
set_option maxRecDepth 100000
set_option maxHeartbeats 8000000
/-! BTSet2: set(list of texts), made. -/
namespace BT
open PySem PySem.Spec PyProof.Rows L2
abbrev fso (w : World) : Obj := { cls := .type "set", dict := none, data := .set #[] 0 (.fresh 0 0 (!w.params.followText "set-order")) }
theorem setS_new {P : Program} {w : World} {h : Heap} {a : Addr} (ho : h.get? a = some (fso w)) : SetS P w h a [] :=
  ⟨_, #[], 0, _, ho, ⟨rfl, rfl, rfl⟩, rfl, (fun e he => by simp at he), (by simp), (fun k => by simp), (by simp), (by rfl), List.Pairwise.nil, by
    show _ ∨ (!w.params.followText "set-order") = true
    cases w.params.followText "set-order" <;> simp⟩
section
variable {P : Program} {w : World} {A : Around} {E : Value → Shared → Prop} {s : Shared}
theorem loopS {I : Addr} {fp wr : List Addr} {G : Array GenState → Array GenState → Prop} {n : Nat} {Pv : Nat → Value → Prop} {St : Nat → Shared → Prop} {R : Result → Shared → Prop}
    (W : WalksS P w A.in1 I fp wr G n Pv St) (S : Addr) (hSf : S ∉ fp) (xs : List Str) (hn : n = xs.length) (hb : xs.length + 1 < scanBound) (hval : ∀ i v, Pv i v → ∃ k t, xs[i]? = some k ∧ v = .str k t) :
    ∀ (k i : Nat) (s : Shared), n - i = k → i ≤ n → St i s → SetS P w s.heap S (xs.take i) →
      (∀ s', Moved (S :: wr) G s s' → SetS P w s'.heap S xs → R (.ok (.ret .none)) s') →
      codeAny (model P w) A (.builtin "set.update.loop" ⟨[.ref S, .ref I], []⟩) R s := by
  have notw : S ∉ wr := fun h => hSf (W.sub _ h)
  have more : ∀ b ∈ wr, b ∈ S :: wr := fun b hb => .tail _ hb
  intro k
  induction k with
  | zero =>
    intro i s hk hi st hS fin
    obtain rfl : i = n := by omega
    refine codeAny_builtin F.entry_set_update_loop ?_
    rw [Around.under_plainId F.plain_set_update_loop _]
    show wpAny _ A.in1 (pyNext (.ref I) >>= _) _ _ s
    refine wpAny_bind (W.done s _ _ st fun s' hm => ?_)
    show wpAny _ A.in1 (ret Value.none) _ _ s'
    rw [List.take_of_length_le (by omega)] at hS
    exact wpAny_pure (fin s' (hm.mono more) (hS.at fun o e => hm.heap S o notw e))
  | succ k ih =>
    intro i s hk hi st hS fin
    have hlt : i < n := by omega
    refine codeAny_builtin F.entry_set_update_loop ?_
    rw [Around.under_plainId F.plain_set_update_loop _]
    show wpAny _ A.in1 (pyNext (.ref I) >>= _) _ _ s
    refine wpAny_bind (W.item i s _ _ hlt st fun v s' hP st' hm => ?_)
    obtain ⟨z, t, hz, rfl⟩ := hval i v hP
    have hS' : SetS P w s'.heap S (xs.take i) := hS.at fun o e => hm.heap S o notw e
    show wpAny _ A.in1 (holding [Value.str z t] (setAdd S (.str z t)) >>= _) _ _ s'
    refine wpAny_bind (wpAny_holding ?_)
    unfold setAdd
    refine wpAny_holding (wpAny_bind ((PySem.strKind P w).pyHash (k := z) (strKind_is _ _ _ _) ?_))
    refine setS_add (s := { s' with toks := s'.toks + 1 }) hS' (by rw [List.length_take]; omega) fun _ h' same hS2 => ?_
    have hS3 : SetS P w h' S (xs.take (i + 1)) := by
      rw [List.take_add_one, hz]; exact hS2
    have other : ∀ b o, b ≠ S → s'.heap.get? b = some o → h'.get? b = some o := fun b o hb e => (same.2 b hb).trans e
    refine wpAny_pure ⟨plainId_quiet F.plain_set_update_loop _, ih (i + 1) _ (by omega) hlt (W.frame _ s' _ _ st' (Nat.le_succ _) fun b hb o e => other b o (fun h => hSf (h ▸ hb)) e) hS3 fun s'' hm2 hS4 => ?_⟩
    exact fin s'' (Moved.trans W.gtrans ((hm.mono more).then_heap (Nat.le_succ _) fun b o hb e => other b o (fun h => hb (h ▸ .head _)) e) hm2) hS4
theorem strs_get : ∀ {us : List Value} {xs : List Str}, StrsAre us xs → ∀ (i : Nat) (v : Value), us[i]? = some v → ∃ k t, xs[i]? = some k ∧ v = .str k t
  | _, _, .nil, i, v, h => by simp at h
  | _, _, .cons n t hr, 0, v, h => by simp at h; exact ⟨n, t, rfl, h.symm⟩
  | _, _, .cons n t hr, i + 1, v, h => by
    simp only [List.getElem?_cons_succ] at h ⊢
    exact strs_get hr i v h
theorem call_setL {l : Addr} {items : Array Value} (xs : List Str) {Q : Value → Shared → Prop} (hh : A.handled = none) (hl : s.heap.IsList l items) (hit : StrsAre items.toList xs) (hb : xs.length + 1 < scanBound)
    (h : ∀ (h' : Heap) (tk : Nat), SetS P w h' s.heap.objs.size xs → (∀ b o, s.heap.get? b = some o → h'.get? b = some o) → Q (.ref s.heap.objs.size) { s with heap := h', toks := tk }) :
    wpAny (model P w) A (call (.type "set") [.ref l]) Q E s := by
  have hisz : items.size = xs.length := by rw [← StrsAre.len_eq hit, Array.length_toList]
  obtain ⟨c, tl, hmro⟩ := F.called_set.mro
  have hmade := F.called_set.made
  have hsub := F.called_set.sub
  refine wpAny_call (codeAny_of_tree ?_)
  show wpAny _ _ (callAny (.type "set") _) _ _ _
  refine wpAny_pure ⟨Code.quiet_builtin _ (by decide +kernel), codeAny_builtin F.entry_type_call ?_⟩
  rw [Around.under_plain (weight_type_call_type "set" [.ref l] []) rfl]
  have h1 := F.called_set.notType
  have h2 := F.called_set.canCreate
  have hct := F.typeCall_set_1 (.ref l)
  repeat (any_goals (first | assumption | wp_step))
  refine codeAny_mono (code_set_led1 (.ref l) (E := E) (Q₁ := fun obj s₁ => obj = .ref s.heap.objs.size ∧ s₁ = { s with heap := s.heap.push (fso w) }) ⟨rfl, rfl⟩) fun r s₁ hr => ?_
  cases r with
  | error e => exact hr
  | ok fl =>
    cases fl with
    | ret obj =>
      obtain ⟨rfl, rfl⟩ := hr
      have hS : (s.heap.push (fso w)).get? s.heap.objs.size = some (fso w) := Heap.get?_push_size _ rfl
      have hT : Shared.TypeIs { s with heap := s.heap.push (fso w) } (.ref s.heap.objs.size) "set" := ⟨_, hS, rfl⟩
      have hli := F.called_set.init.lookup
      have hbi := F.called_set.init.bind (.ref s.heap.objs.size)
      repeat (any_goals (first | assumption | wp_step))
      refine codeAny_mono (codeAny_call_builtin (R := wants (fun r s₂ => r = .none ∧ ∃ h' tk, s₂ = { s with heap := h', toks := tk } ∧ SetS P w h' s.heap.objs.size xs ∧
          (∀ b o, s.heap.get? b = some o → h'.get? b = some o)) E) F.called_set.init.plain F.entry_set_init (check_set_init_1 hT ?_)) fun r₂ s₂ hr₂ => ?_
      · obtain ⟨⟨ocls, odict, odata, oslots⟩, hol, hcl, nl, hdl⟩ := hl
        simp only at hcl hdl
        subst hcl; subst hdl
        have hol' : (s.heap.push (fso w)).get? l = some { cls := .type "list", dict := odict, data := .seq items nl, slots := oslots } := Heap.get?_push_of_some _ hol
        have hsls := PySem.F.sub_list_set
        have hslf := PySem.F.sub_list_frozenset
        have hne : (Value.type "list" == Value.type "dict") = false := by decide
        have hl1 : (s.heap.push (fso w)).IsList l items := ⟨_, hol', rfl, nl, rfl⟩
        have hz1 : (s.heap.push (fso w)).objs.size = s.heap.objs.size + 1 := Heap.size_push ..
        unfold Builtin.«set.__init__» noKeywords Builtin.Frozenset.updateFrom
        generalize hPI : pyIter = PI
        wp_walk
        subst hPI
        refine wpAny_pyIter_list hl1 (wpAny_bind (wpAny_runValue ?_))
        have hlS : l < s.heap.objs.size := Heap.lt_size hol
        have hh3 : A.in1.in1.in1.handled = none := by simp [hh]
        have hneI : l ≠ (s.heap.push (fso w)).objs.size := by rw [hz1]; exact Nat.ne_of_lt (Nat.lt_succ_of_lt hlS)
        have hSf : s.heap.objs.size ∉ [(s.heap.push (fso w)).objs.size, l] := by
          simp only [List.mem_cons, List.not_mem_nil, or_false, not_or, hz1]; exact ⟨Nat.ne_of_lt (Nat.lt_succ_self _), Nat.ne_of_gt hlS⟩
        refine loopS ((Walks.list hh3 _ l hneI items).toS) s.heap.objs.size hSf xs hisz hb (fun i v hv => strs_get hit i v (by rw [Array.getElem?_toList]; exact hv)) (items.size - 0) 0 _ (by omega) (Nat.zero_le _)
          ⟨⟨_, Heap.get?_push_size _ rfl, rfl, rfl⟩, (hl1.push _)⟩ (setS_new (Heap.get?_push_of_some _ hS)) ?hR
        case hR =>
          intro s' hm hS'
          obtain ⟨h', g2, d', tk', os'⟩ := s'
          obtain rfl : g2 = s.gens := hm.gens
          obtain rfl : d' = s.drawn := hm.drawn
          obtain rfl : os' = s.os := hm.os
          show wpAny _ _ _ _ _ _
          refine wpAny_pure ?_
          show wpAny _ _ (ret Value.none) _ _ _
          refine wpAny_pure ⟨rfl, h', tk', rfl, hS', fun b o e => ?_⟩
          have hb0 : b < s.heap.objs.size := Heap.lt_size e
          refine hm.heap b o ?_ (Heap.get?_push_of_some _ (Heap.get?_push_of_some _ e))
          simp only [List.mem_cons, List.not_mem_nil, or_false, not_or, hz1]
          exact ⟨Nat.ne_of_lt hb0, Nat.ne_of_lt (Nat.lt_succ_of_lt hb0)⟩
      · cases r₂ with
        | error e => exact hr₂
        | ok fl₂ =>
          cases fl₂ with
          | ret r =>
            obtain ⟨rfl, h', tk, rfl, hS', hk'⟩ := hr₂
            repeat (any_goals (first | assumption | wp_step))
            exact h _ _ hS' hk'
          | _ => exact hr₂.elim
    | _ => exact hr.elim
end
theorem perm_nodup {α : Type} [DecidableEq α] : ∀ {l m : List α}, l.Nodup → m.Nodup → (∀ x, x ∈ l ↔ x ∈ m) → l.Perm m
  | [], m, _, _, h => by
    cases m with
    | nil => exact .nil
    | cons a m => exact absurd ((h a).2 (.head _)) (by simp)
  | a :: l, m, hl, hm, h => by
    have ha : a ∈ m := (h a).1 (.head _)
    obtain ⟨p, q, rfl⟩ := List.append_of_mem ha
    have hm2 : (a :: (p ++ q)).Nodup := (List.perm_middle.nodup_iff).mp hm
    rw [List.nodup_cons] at hl hm2
    refine ((perm_nodup hl.2 hm2.2 fun x => ?_).cons a).trans List.perm_middle.symm
    have hx := h x
    rw [List.perm_middle.mem_iff, List.mem_cons, List.mem_cons] at hx
    constructor
    · intro z
      exact (hx.1 (.inr z)).resolve_left fun e => hl.1 (e ▸ z)
    · intro z
      exact (hx.2 (.inr z)).resolve_left fun e => hm2.1 (e ▸ z)
theorem dedup_mem : ∀ (xs : List Str) (x : Str), x ∈ dedupS xs ↔ x ∈ xs
  | [], x => Iff.rfl
  | y :: r, x => by
    simp only [dedupS]
    split
    · rename_i h
      rw [dedup_mem r x, List.mem_cons]
      exact ⟨.inr, fun z => z.elim (fun e => e ▸ h) id⟩
    · rw [List.mem_cons, List.mem_cons, dedup_mem r x]
theorem dedup_nodup : ∀ xs : List Str, (dedupS xs).Nodup
  | [] => List.nodup_nil
  | y :: r => by
    simp only [dedupS]
    split
    · exact dedup_nodup r
    · rename_i h
      exact List.nodup_cons.mpr ⟨fun z => h ((dedup_mem r y).1 z), dedup_nodup r⟩
section
variable {X : Cx} {pins : List (Addr × Obj)} {σ : L2.St} {H : Hp} {s : Shared} {a : Addr} {xs : List Str} {Q : VK}
theorem len_setS (I : Inv X pins σ H s) (R : SetS X.prog X.w s.heap a xs) (hl : xs.length < 64) (q : Q (.int (dedupS xs).length) H) : wpAny (model X.prog X.w) X.A (call (.builtin "len") [.ref a]) (EP X pins σ Q) X.xe s := by
  obtain ⟨o, es, ep, t, ho, hex, hd, g, nd, hm, hb, hf, _⟩ := R
  have hp : (es.toList.map keyS).Perm (dedupS xs) := perm_nodup nd (dedup_nodup xs) fun k => (hm k).trans (dedup_mem xs k).symm
  have hn : es.size = (dedupS xs).length := by have := hp.length_eq; simpa using this
  exact call_len_set ho hex hd hf (by omega) ⟨.int (dedupS xs).length, H, I.tok _, ⟨_, by rw [hn]⟩, q⟩
theorem strs_of_ones {P : Program} {w : World} : ∀ {vs : List Value} , (∀ v ∈ vs, ∃ k tk, v = Value.str k tk) → StrsAre vs (vs.map fun v => keyS (0, v))
  | [], _ => .nil
  | v :: vs, h => by
    obtain ⟨k, tk, rfl⟩ := h v (.head _)
    exact .cons k tk (strs_of_ones (P := P) (w := w) fun u hu => h u (.tail _ hu))
theorem sorted_setS (hc : X.calm = true) (I : Inv X pins σ H s) (R : SetS X.prog X.w s.heap a xs) (hl : xs.length < 64) (q : ∀ ys p, ys.Perm (dedupS xs) → sortedS ys = true → H p = none → Q (.ref p) (upd H p (.lst (ys.map V.str)))) :
    wpAny (model X.prog X.w) X.A (call (.builtin "sorted") [.ref a]) (EP X pins σ Q) X.xe s := by
  obtain ⟨o, es, ep, t, ho, hex, hd, g, nd, hm, hb, hf, hr, hled⟩ := R
  have hp : (es.toList.map keyS).Perm (dedupS xs) := perm_nodup nd (dedup_nodup xs) fun k => (hm k).trans (dedup_mem xs k).symm
  refine call_function_entry_kw kind_sorted plain_sorted entry_sorted (args_sorted1 _) ?_
  unfold Builtin.«sorted»
  refine wpAny_bind (m := checkCount "sorted" 1 1 _) (wpAny_pure ?_)
  refine wpAny_bind (collect_set (A := X.A.in1) (I.ok.hd hc) ⟨o, ho, hex.1, hd⟩ hf (by unfold scanBound; omega) hr hled fun s1 vs k1 hz g1 o1 pm => ?_)
  have hS : StrsAre vs (vs.map fun v => keyS (0, v)) := strs_of_ones (P := X.prog) (w := X.w) fun v hv => by
    obtain ⟨e, he, ev⟩ := List.mem_map.mp (pm.mem_iff.mp hv)
    obtain ⟨k, tk, rfl⟩ := g e he
    exact ⟨k, tk, ev.symm⟩
  have pk : (vs.map fun v => keyS (0, v)).Perm (dedupS xs) := by
    have z := pm.map fun v => keyS (0, v)
    rw [List.map_map] at z
    have e : es.toList.map ((fun v => keyS (0, v)) ∘ fun x => x.2) = es.toList.map keyS := List.map_congr_left fun e he => by
      obtain ⟨k, tk, rfl⟩ := g e he
      rfl
    rw [e] at z
    exact z.trans hp
  have hvl : vs.length < 64 := by
    have z := pm.length_eq
    simp only [List.length_map, Array.length_toList] at z
    omega
  have I1 : Inv X pins σ H s1 := I.call' (ch := []) o1 (Un.kept k1) (I.hok.kept k1) (by rw [g1]; exact I.bare) (fun _ z => nomatch z)
  refine wpAny_bind (wpAny_newList ?_ (by rw [sizeLine_eq]; omega))
  have hoL : (s1.heap.push (seqObj "list" vs.toArray 0)).get? s1.heap.objs.size = some (seqObj "list" vs.toArray 0) := Heap.get?_push_size _ rfl
  refine wpAny_bind (wpAny_holding (wpAny_call_entry_kw slot_list_sort ⟨_, hoL, rfl⟩ entry_list_sort
    (list_sort_treeK strKind_oneLt (s := { s1 with heap := s1.heap.push (seqObj "list" vs.toArray 0) }) hoL hS.keysOf (fun v₁ v₂ rest e => keyKind_strs (by rw [← e]; exact hS)) hvl fun st' hp' hs => ⟨_, rfl, ?_⟩)
    (args_list_sort _)))
  obtain ⟨ys, y1, y2, y3⟩ := sorted_out_str hS hp' hs
  obtain ⟨e', he'⟩ := sortedHeap_at (vs := vs) (out := (arrOf st').map (·.2)) hoL
  have yl : (ys.map V.str).length ≤ sizeLine := by
    have z := y2.length_eq
    rw [List.length_map] at z ⊢
    rw [z, sizeLine_eq]; omega
  refine wpAny_pure ⟨_, rfl, .ref s1.heap.objs.size, upd H s1.heap.objs.size (.lst (ys.map V.str)), I1.laid (t' := s1.toks) (fun b u e => ?_) (Nat.le_refl _)
    (show ObjOk X.prog X.w _ _ _ (.lst (ys.map V.str)) from ⟨yl, ((arrOf st').map (·.2)).toList, e', vals_of_strs y1, by rw [Array.toArray_toList]; exact he'⟩), rfl, q ys _ (y2.trans pk) y3 (I1.hok.fresh (Nat.le_refl _))⟩
  have hb' : b < s1.heap.objs.size := Heap.lt_size e
  rw [sortedHeap_old (Nat.ne_of_lt hb') (by rw [size_push']; exact Nat.lt_succ_of_lt hb')]
  exact Heap.get?_push_of_some _ e
end
end BT
set_option Elab.async false
set_option linter.all false
set_option maxRecDepth 100000
set_option maxHeartbeats 8000000
/-! BTSet3: len(set(e)), sorted(set(e)). -/
namespace BT
open PySem PySem.Spec PyProof.Rows L2
section
variable {X : Cx} {W : WishX} {lin : Lc}
/-- what f(set(xs)) asks -/
def SetF (X : Cx) (id : String) (F : List Str → Hp → VK → Prop) : Prop := ∀ (pins : List (Addr × Obj)) (σ : L2.St) (s : Shared) (a : Addr) (xs : List Str) (H : Hp) (Q : VK), Inv X pins σ H s → SetS X.prog X.w s.heap a xs → xs.length < 64 → F xs H Q →
  wpAny (model X.prog X.w) X.A (call (.builtin id) [.ref a]) (EP X pins σ Q) X.xe s
def tSetF (K : PySem.W.Frag) (F : List Str → Hp → VK → Prop) (t : TA) : TE := fun σ H Q => t σ H fun vs H1 => ∃ (l : Addr) (xs : List Str), vs = [.ref l] ∧ SqL K H1 l (xs.map V.str) ∧ xs.length < 64 ∧ F xs H1 Q
theorem pe_setF {f : Str} {id : String} {F : List Str → Hp → VK → Prop} {t : TA} {a : Expr} {p p2 q pos : Pos} (hc : X.calm = true) (hF : SetF X id F) (hv : bootBuiltins f = some (.builtin id)) (hg : Gl X f) (hm : X.mg f = none) (hg2 : Gl X "set") (hm2 : X.mg "set" = none)
    (ha : PA X [a] t) (hn : f ≠ "__name__") (hdb : (f == ("__debug__" : Str)) = false) (hs : starEach [a] X.env = [(false, eval a X.env)]) : PE X (.Call (.Name f p) [.Call (.Name "set" p2) [a] [] q] [] pos) (tSetF X.K F t) := by
  refine ⟨fun pins s σ H Q I h => ?_⟩
  refine wpAny_Call_Name_kw (ld_blt I hg hm hv ?_ hn hdb)
  refine PyProof.Rows.callWith_builtin1 (PyProof.Rows.args_cons ?_ rfl) rfl rfl
  refine Call_ (ld_blt I hg2 hm2 boot_set (PyProof.Rows.callWith_type1 (thn (ha.run q pins s σ H _ I h) fun us s1 ⟨vs, H1, I1, r1, q1⟩ => ?_) hs rfl))
  obtain ⟨l, xs, rfl, hq, hl, qF⟩ := q1
  obtain ⟨u, rfl, ru⟩ := vals1 r1
  cases ru
  obtain ⟨its, rv, pl, hz⟩ := I1.list hq
  refine call_setL xs (I1.ok.hd hc) pl.isList (by simpa using strsAre_of rv) (by unfold scanBound; omega) fun h' tk hS hk => ?_
  refine PyProof.Rows.args_nil ?_
  have I2 : Inv X pins σ H1 { s1 with heap := h', toks := tk } := I1.kept hk
  exact hF pins σ { s1 with heap := h', toks := tk } _ xs H1 Q I2 hS hl qF
def FLen : List Str → Hp → VK → Prop := fun xs H Q => Q (.int (dedupS xs).length) H
def FSort : List Str → Hp → VK → Prop := fun xs H Q => ∀ ys p, ys.Perm (dedupS xs) → sortedS ys = true → H p = none → Q (.ref p) (upd H p (.lst (ys.map V.str)))
theorem setF_len : SetF X "len" FLen := fun pins σ s a xs H Q I hS hl q => len_setS I hS hl q
theorem setF_sorted (hc : X.calm = true) : SetF X "sorted" FSort := fun pins σ s a xs H Q I hS hl q => sorted_setS hc I hS hl q
/-- what a built-in of a set gives -/
def SetG (X : Cx) (F : List Str → Hp → VK → Prop) (g : List Str → D) : Prop := ∀ (bd : Addr → Prop) (xs : List Str) (H : Hp) (Q : VK), BadIn bd H → (∀ x ∈ xs, OkS x) → xs.length < 64 → (∀ v H', Same H H' → Rep X.prog X.w H' bd v (g xs) → Q v H') → F xs H Q
theorem setG_len : SetG X FLen fun xs => .int (dedupS xs).length := fun bd xs H Q hb ok hl q => q _ _ (Same.refl _) (.int _)
theorem dedup_len : ∀ xs : List Str, (dedupS xs).length ≤ xs.length
  | [] => Nat.le_refl _
  | y :: r => by
    have := dedup_len r
    simp only [dedupS]
    split <;> simp only [List.length_cons] <;> omega
theorem setG_sort : SetG X FSort fun xs => .list (((dedupS xs).map PyData.str).mergeSort leD) := fun bd xs H Q hb ok hl q ys p hp hs hf => by
  dsimp only at q
  rw [← sortS_eq hp hs] at q
  have oky : ∀ x ∈ ys, OkS x := fun x hx => ok x ((dedup_mem xs x).1 (hp.subset hx))
  refine q _ _ (same_upd hf) (new_lst hb hf ?_ (repL_str oky))
  rw [List.length_map, hp.length_eq]
  have := dedup_len xs
  exact Nat.le_trans (Nat.le_trans this (Nat.le_of_lt hl)) (by decide)
theorem s_set {f : Str} {id : String} {F : List Str → Hp → VK → Prop} {G : List Str → D} {b : Blt} {a : Expr} {p p2 q pos : Pos} {g : En → R (List D)} (hc : X.calm = true) (hF : SetF X id F) (hG : SetG X F G)
    (hb : ∀ ds d, bltF b ds = .ok d → ∃ xs ss, ds = [.list xs] ∧ strsOf xs = some ss ∧ ss.length < 64 ∧ d = G ss)
    (hv : bootBuiltins f = some (.builtin id)) (hg : Gl X f) (hm : X.mg f = none) (hg2 : Gl X "set") (hm2 : X.mg "set" = none)
    (ha : PA X [a] (ARt X W lin g)) (hn : f ≠ "__name__") (hdb : (f == ("__debug__" : Str)) = false) (hs : starEach [a] X.env = [(false, eval a X.env)]) :
    PE X (.Call (.Name f p) [.Call (.Name "set" p2) [a] [] q] [] pos) (ER X W lin false fun r => (g r).bind fun ds => bltF b ds) := by
  refine pe_imp (pe_setF hc hF hv hg hm hg2 hm2 ha hn hdb hs) fun σ H Q h => ?_
  obtain ⟨bd, r, hbd, hen, q⟩ := h
  refine ⟨bd, r, hbd, hen, ?_⟩
  cases e1 : g r with
  | bad => simp only [e1, R.bind_bad] at q
  | exc c => simp only [e1, R.bind_exc] at q; exact q
  | ok ds =>
    simp only [e1, R.bind_ok] at q
    intro vs H1 s1 rs
    cases e2 : bltF b ds with
    | bad => simp only [e2] at q
    | exc c => exact (blt_noexc e2).elim
    | ok d =>
      simp only [e2] at q
      obtain ⟨xs, ss, rfl, h1, h2, rfl⟩ := hb ds d e2
      cases rs with
      | cons rx t =>
        cases t
        obtain ⟨l, ws, rfl, ra, la, ta⟩ := rx.listI
        obtain ⟨rfl, ok⟩ := strs_map ta h1
        exact ⟨l, ss, rfl, SqL.of ra, h2, hG bd ss H1 Q (hbd.same s1) ok h2 fun v H2 s2 rv => q v H2 (s1.trans s2) rv⟩
theorem lenset_inv {ds : List D} {d : D} (h : bltF .lenset ds = .ok d) : ∃ xs ss, ds = [.list xs] ∧ strsOf xs = some ss ∧ ss.length < 64 ∧ d = .int (dedupS ss).length := by
  match ds, h with
  | [.list xs], h =>
    have h : ((R.ofO (strsOf xs)).bind fun ss => R.gd (decide (ss.length < 64)) (.ok (.int (dedupS ss).length))) = .ok d := h
    cases e : strsOf xs with
    | none => rw [e] at h; cases h
    | some ss =>
      rw [e] at h
      obtain ⟨e1, e2⟩ := gd_ok (show R.gd (decide (ss.length < 64)) (R.ok (PyData.int (dedupS ss).length)) = .ok d from h)
      injection e2 with e2
      exact ⟨xs, ss, rfl, e, of_decide_eq_true e1, e2.symm⟩
  | [], h => cases h
  | [.none], h => cases h
  | [.bool _], h => cases h
  | [.int _], h => cases h
  | [.str _], h => cases h
  | [.tuple _], h => cases h
  | [.dict _], h => cases h
  | a :: b :: r, h => cases a <;> cases h
theorem sortset_inv {ds : List D} {d : D} (h : bltF .sortset ds = .ok d) : ∃ xs ss, ds = [.list xs] ∧ strsOf xs = some ss ∧ ss.length < 64 ∧ d = .list (((dedupS ss).map PyData.str).mergeSort leD) := by
  match ds, h with
  | [.list xs], h =>
    have h : ((R.ofO (strsOf xs)).bind fun ss => R.gd (decide (ss.length < 64)) (.ok (.list (((dedupS ss).map PyData.str).mergeSort leD)))) = .ok d := h
    cases e : strsOf xs with
    | none => rw [e] at h; cases h
    | some ss =>
      rw [e] at h
      obtain ⟨e1, e2⟩ := gd_ok (show R.gd (decide (ss.length < 64)) (R.ok (PyData.list (((dedupS ss).map PyData.str).mergeSort leD))) = .ok d from h)
      injection e2 with e2
      exact ⟨xs, ss, rfl, e, of_decide_eq_true e1, e2.symm⟩
  | [], h => cases h
  | [.none], h => cases h
  | [.bool _], h => cases h
  | [.int _], h => cases h
  | [.str _], h => cases h
  | [.tuple _], h => cases h
  | [.dict _], h => cases h
  | a :: b :: r, h => cases a <;> cases h
def bltSet (x : Str) : Option Blt := if x = "len" then some .lenset else if x = "sorted" then some .sortset else none
theorem ofSet_ok (hc : X.calm = true) {f : Str} {b : Blt} (h : bltSet f = some b) {a : Expr} {p p2 q pos : Pos} {g : En → R (List D)} (hg : Gl X f) (hbn : X.mg "len" = none ∧ X.mg "sorted" = none) (hg2 : Gl X "set") (hm2 : X.mg "set" = none)
    (ha : PA X [a] (ARt X W lin g)) (hs : starEach [a] X.env = [(false, eval a X.env)]) :
    PE X (.Call (.Name f p) [.Call (.Name "set" p2) [a] [] q] [] pos) (ER X W lin false fun r => (g r).bind fun ds => bltF b ds) := by
  unfold bltSet at h
  by_cases e : f = "len"
  · rw [if_pos e] at h; subst e; cases h
    exact s_set hc setF_len setG_len (fun _ _ => lenset_inv) (by decide +kernel) hg hbn.1 hg2 hm2 ha (by decide) (by decide) hs
  rw [if_neg e] at h
  by_cases e : f = "sorted"
  · rw [if_pos e] at h; subst e; cases h
    exact s_set hc (setF_sorted hc) setG_sort (fun _ _ => sortset_inv) (by decide +kernel) hg hbn.2 hg2 hm2 ha (by decide) (by decide) hs
  rw [if_neg e] at h
  cases h
end
end BT
set_option Elab.async false
set_option linter.all false
set_option maxRecDepth 100000
set_option maxHeartbeats 4000000
/-! BTCmp: from the model's syntax to ours. -/
namespace BT
open PySem PySem.Spec PyProof.Rows L2

/-- errors: which classes each is one of -/
abbrev Exs := List (Str × List (Str × Bool))
/-- what is known of the place where an expression stands -/
structure CC where
  N : List Str
  lin : List Nat
  scr : Option Nat
  sc : Scope
  fns : List (Str × Nat)
  cons : List (Str × M)
  exs : Exs
def M.isLin : M → Bool
  | .lin _ => true
  | _ => false
def slotOf (N : List Str) (x : Str) : Option Nat := N.findIdx? (· == x)
def nameOk (x : Str) : Bool := !(x == ("__debug__" : Str)) && !(x == ("__classdict__" : Str)) && !(x == ("__name__" : Str))
def isVis (sc : Scope) (x : Str) : Bool := match sc.names.lookup x with
  | some .local => true
  | some .cell => true
  | some .free => true
  | _ => false
def isGl (sc : Scope) (x : Str) : Bool := match sc.names.lookup x with
  | some .globalImplicit => true
  | _ => false
def bopOf : Operator → Option Bop
  | .Add => some .add
  | .Sub => some .sub
  | .Mult => some .mul
  | .Mod => some .mod
  | .FloorDiv => some .fdiv
  | _ => none
def copOf : CmpOp → Option Cop
  | .Eq => some .eq
  | .NotEq => some .ne
  | .Lt => some .lt
  | .LtE => some .le
  | .Gt => some .gt
  | .GtE => some .ge
  | .In => some .isin
  | .NotIn => some .notin
  | .Is => some .is_
  | .IsNot => some .isnot
def bltOf (x : Str) (n : Nat) : Option Blt :=
  if x = "len" then (if n = 1 then some .len else none)
  else if x = "tuple" then (if n = 1 then some .tuple else none)
  else if x = "list" then (if n = 1 then some .list else none)
  else if x = "all" then (if n = 1 then some .all else none)
  else if x = "any" then (if n = 1 then some .any else none)
  else if x = "sum" then (if n = 1 then some .sum else none)
  else if x = "int" then (if n = 1 then some .int else none)
  else if x = "str" then (if n = 1 then some .str else none)
  else if x = "ord" then (if n = 1 then some .ord else none)
  else if x = "max" then (if n = 2 then some .max2 else if n = 1 then some .max1 else none)
  else if x = "min" then (if n = 2 then some .min2 else if n = 1 then some .min1 else none)
  else if x = "dict" then (if n = 1 then some .dict else none)
  else if x = "sorted" then (if n = 1 then some .sorted else none)
  else none
def mthOf (x : Str) (n : Nat) : Option Blt :=
  if x = "upper" then (if n = 0 then some .upper else none)
  else if x = "strip" then (if n = 1 then some .strip else none)
  else if x = "split" then (if n = 1 then some .split else none)
  else if x = "join" then (if n = 1 then some .join else none)
  else if x = "count" then (if n = 1 then some .count else none)
  else if x = "index" then (if n = 1 then some .index else none)
  else none
def tyOf (x : Str) : Option Ty :=
  if x = "int" then some .tint else if x = "str" then some .tstr else if x = "bool" then some .tbool else if x = "tuple" then some .ttup else if x = "list" then some .tlst else none
def tysOf : List Expr → Option (List Ty)
  | [] => some []
  | .Name x _ :: r => (tyOf x).bind fun t => (tysOf r).map (t :: ·)
  | _ :: _ => none
/-- its test is its value's truth, or a test of such -/
def tOk : Nat → Expr → Bool
  | 0, _ => false
  | n + 1, e => match e with
    | .BoolOp _ es _ => es.all (tOk n)
    | .UnaryOp .Not x _ => tOk n x
    | .IfExp .. => false
    | _ => true
def isNameE : Expr → Bool
  | .Name .. => true
  | _ => false
/-- the slots of a target's names -/
def slotsOf (N : List Str) : List Expr → Option (List Nat)
  | [] => some []
  | .Name x _ :: r => (slotOf N x).bind fun i => (slotsOf N r).map (i :: ·)
  | _ :: _ => none
/-- x, (y, z, ..) -/
def nestOf (N : List Str) : List Expr → Option Tg
  | [.Name x _, .Tuple es _ _] => (slotOf N x).bind fun i => (slotsOf N es).map fun is => .nest i is
  | _ => none
def tgOf (N : List Str) : Expr → Option Tg
  | .Name x _ => (slotOf N x).map .name
  | .Tuple es _ _ => match slotsOf N es with
    | some is => some (.tup is)
    | none => nestOf N es
  | _ => none
def nmE : Expr → Option Str
  | .Name x _ => some x
  | _ => none
def inE : Expr → List Str
  | .Tuple fs _ _ => fs.filterMap nmE
  | _ => []
/-- the names of a target -/
def namesOf : Expr → List Str
  | .Name x _ => [x]
  | .Tuple es _ _ => es.filterMap nmE ++ es.flatMap inE
  | _ => []
def ownOf (N : List Str) (scope : Scope) : List (Str × Nat) := scope.names.filterMap fun (x, k) => if k == .local || k == .cell then (slotOf N x).map fun i => (x, i) else none
def isLoc (sc : Scope) (x : Str) : Bool := match sc.names.lookup x with
  | some .local => true
  | some .cell => true
  | _ => false
def whole (m : Option M) : Option M := m.bind fun m => if m.isLin then none else some m
def isStar : Expr → Bool
  | .Starred .. => true
  | _ => false
/-- a slice, or a display that is marked -/
def isSl : Expr → Bool
  | .Slice .. => true
  | _ => false
def isSetE : Expr → Bool
  | .Set .. => true
  | _ => false
def isTupE : Expr → Bool
  | .Tuple .. => true
  | _ => false
def isCall0 : Expr → Bool
  | .Call (.Name _ _) [] [] _ => true
  | _ => false
/-- a call set(a) as the one argument -/
def setArg : List Expr → Option Expr
  | [.Call (.Name g _) [a] [] _] => if g = "set" then some a else none
  | _ => none
mutual
def cE : Nat → CC → Expr → Option M
  | 0, _, _ => none
  | n + 1, c, e => match e with
    | .Name x _ => if !nameOk x then none else if isVis c.sc x then (slotOf c.N x).bind fun i => if c.scr = some i then none else if i ∈ c.lin then some (.lin i) else some (.var i) else if isGl c.sc x then c.cons.lookup x else none
    | .Constant .none _ _ => some .non
    | .Constant (.bool b) _ _ => some (.bl b)
    | .Constant (.int i) _ _ => some (.int i)
    | .Constant (.str x) _ _ => if okSb x then some (.str x) else none
    | .Tuple es _ _ => if es.length ≤ 1000 then (cEs n c es).map .tup else none
    | .List es _ => if es.length ≤ 1000 then (cEs n c es).map .lst else none
    | .BinOp a op b _ => (bopOf op).bind fun o => (cE n c a).bind fun x => (cE n c b).map fun y => .bin o x y
    | .UnaryOp .Not a _ => (cE n c a).map .nt
    | .UnaryOp .USub a _ => (cE n c a).map .neg
    | .BoolOp .And es _ => cAnd n c es
    | .BoolOp .Or es _ => cOr n c es
    | .IfExp t a b _ => if tOk n t then (cE n c t).bind fun k => (whole (cE n c a)).bind fun x => (whole (cE n c b)).map fun y => .ife k x y else none
    | .Compare a [op] [b] _ => if isSetE b then none else (copOf op).bind fun o => (cE n c a).bind fun x => (cE n c b).map fun y => .cmp o x y
    | .Compare a [op, op2] [b, d] _ => if isSetE d then none else (copOf op).bind fun o => (copOf op2).bind fun o2 => (cE n c a).bind fun x => (cE n c b).bind fun y => (cE n c d).map fun z => .chain o o2 x y z
    | .Subscript a (.Slice none none (some (.UnaryOp .USub (.Constant (.int 1) _ _) _)) _) _ => (cE n c a).map .rev
    | .Subscript a (.Slice lo hi none _) _ => (cE n c a).bind fun x => (cO n c lo).bind fun l => (cO n c hi).map fun h => .slc x l h
    | .Subscript a b _ => if isSl b then none else (cE n c a).bind fun x => (cE n c b).map fun y => .idx x y
    | .Call (.Name f _) args [] _ => if !nameOk f || !isGl c.sc f || args.any isStar then none else
        if f = "isinstance" then (match args with
          | [a, .Name t _] => if isGl c.sc t then (tyOf t).bind fun t => (cE n c a).map fun x => .isi x [t] else none
          | [a, .Tuple ts _ _] => if ts.all (fun e => match e with | .Name t _ => isGl c.sc t | _ => false) && decide (ts.length ≤ 1000) then (tysOf ts).bind fun ts => (cE n c a).map fun x => .isi x ts else none
          | _ => none)
        else if f = "_law_cell" then (match args with
          | [.Name s _, k] => if isVis c.sc s && nameOk s && decide (slotOf c.N s = c.scr) && c.scr.isSome then (whole (cE n c k)).map fun y => .call f [y] else none
          | _ => none)
        else match c.fns.lookup f with
          | some k => if args.length = k && !args.isEmpty then (cEs n c args).map fun es => .call f es else none
          | none => match setArg args with
            | some a => if isGl c.sc "set" then (bltSet f).bind fun b => (cEs' n c [a]).map fun es => .blt b es else none
            | none => (bltOf f args.length).bind fun b => (cEs' n c args).map fun es => .blt b es
    | .Call (.Attribute o m apos) args [] cpos => if args.any isStar || isCall0 o || !(apos.endLine == cpos.line) || decide (30 ≤ args.length) then none else
        if m = "get" then (if args.length = 2 then (cE n c o).bind fun x => (cEs n c args).map fun es => .mth .get x es else none)
        else (mthOf m args.length).bind fun b => (cE n c o).bind fun x => match args with
          | [] => some (.blt b [x])
          | args => (cEs' n c args).map fun es => .mth b x es
    | .ListComp elt [⟨tg, iter, ifs, 0⟩] scope _ =>
        let own := ownOf c.N scope
        let c' : CC := { c with sc := relS scope c.sc }
        if !blkC c.N c.sc scope own || isSetE iter then none else
        (tgOf c.N tg).bind fun t =>
        if !(t.slots.all fun i => (own.map (·.2)).contains i && !c.lin.contains i && decide (c.scr ≠ some i)) || !((namesOf tg).all fun x => isLoc scope x && nameOk x) || (own.any fun p => decide (c.scr = some p.2)) then none else
        (cI n c tg iter).bind fun (it : ItK × List M) => (cQ n c' ifs).bind fun k => (whole (cE n c' elt)).map fun y => .lc (own.map (·.2)) t it.1 it.2 k y
    | _ => none
def cEs : Nat → CC → List Expr → Option (List M)
  | 0, _, _ => none
  | _ + 1, _, [] => some []
  | n + 1, c, e :: es => if isStar e then none else (whole (cE n c e)).bind fun x => (cEs n c es).map (x :: ·)
def cEs' : Nat → CC → List Expr → Option (List M)
  | 0, _, _ => none
  | _ + 1, _, [] => some []
  | n + 1, c, e :: es => if isStar e then none else (cE n c e).bind fun x => (cEs' n c es).map (x :: ·)
def cAnd : Nat → CC → List Expr → Option M
  | 0, _, _ => none
  | _ + 1, _, [] => none
  | n + 1, c, [e] => whole (cE n c e)
  | n + 1, c, e :: es => (whole (cE n c e)).bind fun x => (cAnd n c es).map fun y => .and x y
def cOr : Nat → CC → List Expr → Option M
  | 0, _, _ => none
  | _ + 1, _, [] => none
  | n + 1, c, [e] => whole (cE n c e)
  | n + 1, c, e :: es => (whole (cE n c e)).bind fun x => (cOr n c es).map fun y => .or x y
/-- the tests of a comprehension -/
def cQ : Nat → CC → List Expr → Option M
  | 0, _, _ => none
  | _ + 1, _, [] => some (.bl true)
  | n + 1, c, [q] => if tOk n q then cE n c q else none
  | _ + 1, _, _ => none
def cO : Nat → CC → Option Expr → Option M
  | 0, _, _ => none
  | _ + 1, _, none => some .non
  | n + 1, c, some e => (cE n c e).bind fun x => if x.absent then none else some x
/-- what is walked -/
def cI : Nat → CC → Expr → Expr → Option (ItK × List M)
  | 0, _, _, _ => none
  | n + 1, c, tg, e => match e with
    | .Call (.Name f _) args [] _ => if f = "range" then (if !isGl c.sc f then none else match args with
          | [a] => if isStar a then none else (cE n c a).map fun x => (.range1, [x])
          | [a, b] => if isStar a || isStar b then none else (cE n c a).bind fun x => (cE n c b).map fun y => (.range2, [x, y])
          | _ => none)
        else if f = "zip" then (match args with
          | [a, b] => if !isGl c.sc f || isStar a || isStar b || !isTupE tg then none else (cEs n c [a, b]).map fun xs => (.zip, xs)
          | _ => none)
        else if f = "enumerate" then (match args with
          | [a] => if !isGl c.sc f || isStar a || !isTupE tg then none else (cEs n c [a]).map fun xs => (.enum, xs)
          | _ => none)
        else (cE n c e).map fun x => (.plain, [x])
    | e => (cE n c e).map fun x => (.plain, [x])
end
end BT
set_option Elab.async false
set_option linter.all false
set_option maxRecDepth 100000
set_option maxHeartbeats 4000000
/-! BTSnd: what is compiled is what the model does: expressions. -/
namespace BT
open PySem PySem.Spec PyProof.Rows L2

/-- the built-in names that are used -/
def bltNames : List Str := ["len", "tuple", "list", "all", "any", "sum", "int", "str", "ord", "max", "min", "isinstance", "bool", "range", "sorted", "dict", "set", "enumerate", "zip"]
/-- a constant of the module -/
def ConsOk (X : Cx) (cons : List (Str × M)) : Prop := ∀ x m, cons.lookup x = some m → ∃ u v d, X.mg x = some u ∧ RelV v u ∧ (∀ H bd, Rep X.prog X.w H bd v d) ∧ m.isLin = false ∧ ∀ C r, ev C m r = .ok d
/-- the reader of the script, as it stands in the program -/
structure CellFact (X : Cx) (k : Nat) (ns : List Int) : Prop where
  ex : ∃ (fa : Addr) (fd : FuncData) (ps : List Str), ps.length = 2 ∧ X.mg "_law_cell" = some (.ref fa) ∧ PySem.W.keepIn X.K (.ref fa) = true ∧ Binds X.K fd ps [] ∧
    FnOk X.prog X.w X.K X.mg X.base (L2.CX X.prog X.w) k fa fd ps (fun vs H Q _ => ∃ a i, vs = [.ref a, .int i] ∧ SqL X.K H a (ns.map V.int) ∧ 0 ≤ i ∧ Q (.int (ns.getD i.toNat 0)) H)
structure XO (X : Cx) (c : CC) (lin : Lc) (W : WishX) (k : Nat) (C : CallF) : Prop where
  calm : X.calm = true
  room : Room k X.A
  nd : X.N.Nodup
  hN : X.N = c.N
  hsc : X.env.scope = c.sc
  tk : Takes X (wx X.mg W)
  fns : ∀ f n, c.fns.lookup f = some n → FnFact X.prog X.w X.K X.mg X.base k f n (C f)
  blt : ∀ x ∈ bltNames, X.mg x = none
  cons : ConsOk X c.cons
  hlin : lin.lin = c.lin
  hn : lin.n = c.N.length
  hscr : lin.scr.map (·.1) = c.scr
  hkl : ∀ H a xs, lin.kl a xs → SqL X.K H a xs
  cell : ∀ i ns, lin.scr = some (i, ns) → CellFact X k ns ∧ ∀ k : Int, C "_law_cell" [.int k] = if 0 ≤ k then .ok (.int (ns.getD k.toNat 0)) else .bad
  cellD : ∀ d, (∀ k, d ≠ .int k) → C "_law_cell" [d] = .bad
section
variable {X : Cx} {c : CC} {lin : Lc} {W : WishX} {k : Nat} {C : CallF}
theorem XO.u64 (h : XO X c lin W k C) : X.A.units + 64 < cLine := h.room.units
theorem XO.u65 (h : XO X c lin W k C) : X.A.units + 65 < cLine := by have := h.room.un; omega
theorem XO.gl (h : XO X c lin W k C) {x : Str} (e : isGl c.sc x = true) : Gl X x := by
  show X.env.scope.names.lookup x = _
  rw [h.hsc]
  unfold isGl at e
  split at e
  · assumption
  · cases e
theorem XO.vis (h : XO X c lin W k C) {x : Str} (e : isVis c.sc x = true) : Vis X.env.scope x := by
  unfold Vis
  rw [h.hsc]
  unfold isVis at e
  split at e
  · rename_i q; exact .inl q
  · rename_i q; exact .inr (.inl q)
  · rename_i q; exact .inr (.inr q)
  · cases e
theorem slotOf_get {N : List Str} {x : Str} {i : Nat} (h : slotOf N x = some i) : N[i]? = some x := by
  unfold slotOf at h
  rw [List.findIdx?_eq_some_iff_getElem] at h
  obtain ⟨hi, e, _⟩ := h
  rw [List.getElem?_eq_getElem hi]
  simpa using e
theorem nameOk_of {x : Str} (h : nameOk x = true) : (x == ("__debug__" : Str)) = false ∧ (x == ("__classdict__" : Str)) = false ∧ x ≠ "__name__" := by
  unfold nameOk at h
  simp only [Bool.and_eq_true, Bool.not_eq_true'] at h
  exact ⟨h.1.1, h.1.2, fun e => by rw [e] at h; exact absurd h.2 (by decide)⟩
theorem whole_some {o : Option M} {m : M} (h : whole o = some m) : o = some m ∧ m.isLin = false := by
  unfold whole at h
  rw [Option.bind_eq_some_iff] at h
  obtain ⟨m', e1, e2⟩ := h
  split at e2
  · cases e2
  · rename_i hl
    injection e2 with e2; subst e2
    exact ⟨e1, by simpa using hl⟩
theorem star1 {e : Expr} {es : List Expr} {env : Env} (h : isStar e = false) : starEach (e :: es) env = (false, eval e env) :: starEach es env := by
  cases e <;> first | rfl | cases h
theorem starAll : ∀ {es : List Expr} {env : Env} {pos : Pos}, es.any isStar = false → (backTo pos (starEach es env)).any (·.1) = false
  | [], _, _, _ => rfl
  | e :: es, env, pos, h => by
    rw [List.any_cons, Bool.or_eq_false_iff] at h
    rw [star1 h.1]
    show (false || (backTo pos (starEach es env)).any (·.1)) = false
    rw [starAll h.2]; rfl
theorem starFew : ∀ {es : List Expr} {env : Env} {pos : Pos}, es.any isStar = false → (backTo pos (starEach es env)).all (fun x => !x.1) = true
  | [], _, _, _ => rfl
  | e :: es, env, pos, h => by
    rw [List.any_cons, Bool.or_eq_false_iff] at h
    rw [star1 h.1]
    show (true && (backTo pos (starEach es env)).all (fun x => !x.1)) = true
    rw [starFew h.2]; rfl
theorem noMark {op : CmpOp} {b : Expr} (h : isSetE b = false) : behindInMarks op b = false := by
  cases b <;> first | rfl | cases h
theorem noMark2 {op op' : CmpOp} {b d : Expr} (h : isSetE d = false) : lastMarks [op, op'] [b, d] = false := by
  show behindInMarks op' d = false
  exact noMark h
theorem noFold {e : Expr} {env : Env} (h : isSetE e = false) (x : Value) : foldedSetIterable e env x = pure x := by
  cases e <;> first | rfl | cases h
theorem plainIx {b : Expr} (h : isSl b = false) : PlainIx b := by
  intro o i
  cases b <;> first | rfl | cases h
theorem noBase {o : Expr} {m : Str} {env : Env} (h : isCall0 o = false) : attributeBase o m env (eval o env) = eval o env := by
  unfold attributeBase
  split
  · cases h
  · rfl
theorem binOk (op : Operator) (o : Bop) (h : bopOf op = some o) : Op2 X (binaryOp op) (binF o) := by
  cases op <;> (simp only [bopOf, Option.some.injEq, reduceCtorEq] at h) <;> subst h
  · exact op2_add
  · exact op2_sub
  · exact op2_mul
  · exact op2_mod
  · exact op2_fdiv
theorem cmpOk (hx : XO X c lin W k C) (op : CmpOp) (o : Cop) (h : copOf op = some o) : Cmp2 X op (cmpF o) := by
  cases op <;> (simp only [copOf, Option.some.injEq, reduceCtorEq] at h) <;> subst h
  · exact cmp_eq hx.u64
  · exact cmp_ne hx.u64
  · exact cmp_lt
  · exact cmp_le
  · exact cmp_gt
  · exact cmp_ge
  · exact cmp_is
  · exact cmp_isnot
  · exact cmp_in hx.u65
  · exact cmp_notin hx.u65
/-- a built-in by its name -/
theorem s_blt {x : Str} {b : Blt} {v : Value} {e : Expr} {es : List Expr} {p pos : Pos} {g : En → R (List D)} (hv : bootBuiltins x = some v) (hval : (∃ id, v = .builtin id) ∨ ∃ T, v = .type T) (hb : BltOk X v (bltF b)) (hg : Gl X x) (hm : X.mg x = none) (ha : PA X (e :: es) (ARt X W lin g))
    (hn : x ≠ "__name__") (hdb : (x == ("__debug__" : Str)) = false) (he : starEach (e :: es) X.env = (false, eval e X.env) :: starEach es X.env) (hpl : (backTo pos (starEach es X.env)).any (·.1) = false) :
    PE X (.Call (.Name x p) (e :: es) [] pos) (ER X W lin false fun r => (g r).bind fun ds => bltF b ds) := by
  have fin : ∀ {t : TE}, (∀ σ H Q, (ARt X W lin g σ H fun vs H1 => anyCall X v vs H1 Q) → t σ H Q) → PE X (.Call (.Name x p) (e :: es) [] pos) t → True := fun _ _ => trivial
  have key : ∀ σ H Q, ER X W lin false (fun r => (g r).bind fun ds => bltF b ds) σ H Q → ARt X W lin g σ H fun vs H1 => anyCall X v vs H1 Q := fun σ H Q h => by
    obtain ⟨bd, r, hbd, hen, q⟩ := h
    refine ⟨bd, r, hbd, hen, ?_⟩
    cases e1 : g r with
    | bad => simp only [e1, R.bind_bad] at q
    | exc c => simp only [e1, R.bind_exc] at q; exact q
    | ok ds =>
      simp only [e1, R.bind_ok] at q
      intro vs H1 s1 rs
      cases e2 : bltF b ds with
      | bad => simp only [e2] at q
      | exc c => exact (blt_noexc e2).elim
      | ok d =>
        simp only [e2] at q
        exact hb ds d e2 bd vs H1 Q (hbd.same s1) rs fun v H2 s2 rv => q v H2 (s1.trans s2) rv
  rcases hval with ⟨id, rfl⟩ | ⟨T, rfl⟩
  · exact pe_imp (pe_callB any_call hg hm hv ha hn hdb he hpl) key
  · exact pe_imp (pe_callTy any_call hg hm hv ha hn hdb he hpl) key
theorem bltOk (hx : XO X c lin W k C) (x : Str) (n : Nat) (b : Blt) (h : bltOf x n = some b) : x ∈ bltNames ∧ ∃ v, bootBuiltins x = some v ∧ ((∃ id, v = .builtin id) ∨ ∃ T, v = .type T) ∧ BltOk X v (bltF b) := by
  unfold bltOf at h
  by_cases e : x = "len"
  · rw [if_pos e] at h; subst e
    by_cases e2 : n = 1
    · rw [if_pos e2] at h; cases h; exact ⟨by decide, .builtin "len", by decide +kernel, .inl ⟨_, rfl⟩, blt_len⟩
    · rw [if_neg e2] at h; cases h
  rw [if_neg e] at h; clear e
  by_cases e : x = "tuple"
  · rw [if_pos e] at h; subst e
    by_cases e2 : n = 1
    · rw [if_pos e2] at h; cases h; exact ⟨by decide, .type "tuple", by decide +kernel, .inr ⟨_, rfl⟩, blt_tuple hx.calm⟩
    · rw [if_neg e2] at h; cases h
  rw [if_neg e] at h; clear e
  by_cases e : x = "list"
  · rw [if_pos e] at h; subst e
    by_cases e2 : n = 1
    · rw [if_pos e2] at h; cases h; exact ⟨by decide, .type "list", by decide +kernel, .inr ⟨_, rfl⟩, blt_list hx.calm⟩
    · rw [if_neg e2] at h; cases h
  rw [if_neg e] at h; clear e
  by_cases e : x = "all"
  · rw [if_pos e] at h; subst e
    by_cases e2 : n = 1
    · rw [if_pos e2] at h; cases h; exact ⟨by decide, .builtin "all", by decide +kernel, .inl ⟨_, rfl⟩, blt_all hx.calm⟩
    · rw [if_neg e2] at h; cases h
  rw [if_neg e] at h; clear e
  by_cases e : x = "any"
  · rw [if_pos e] at h; subst e
    by_cases e2 : n = 1
    · rw [if_pos e2] at h; cases h; exact ⟨by decide, .builtin "any", by decide +kernel, .inl ⟨_, rfl⟩, blt_any hx.calm⟩
    · rw [if_neg e2] at h; cases h
  rw [if_neg e] at h; clear e
  by_cases e : x = "sum"
  · rw [if_pos e] at h; subst e
    by_cases e2 : n = 1
    · rw [if_pos e2] at h; cases h; exact ⟨by decide, .builtin "sum", by decide +kernel, .inl ⟨_, rfl⟩, blt_sum hx.calm⟩
    · rw [if_neg e2] at h; cases h
  rw [if_neg e] at h; clear e
  by_cases e : x = "int"
  · rw [if_pos e] at h; subst e
    by_cases e2 : n = 1
    · rw [if_pos e2] at h; cases h; exact ⟨by decide, .type "int", by decide +kernel, .inr ⟨_, rfl⟩, blt_int⟩
    · rw [if_neg e2] at h; cases h
  rw [if_neg e] at h; clear e
  by_cases e : x = "str"
  · rw [if_pos e] at h; subst e
    by_cases e2 : n = 1
    · rw [if_pos e2] at h; cases h; exact ⟨by decide, .type "str", by decide +kernel, .inr ⟨_, rfl⟩, blt_str⟩
    · rw [if_neg e2] at h; cases h
  rw [if_neg e] at h; clear e
  by_cases e : x = "ord"
  · rw [if_pos e] at h; subst e
    by_cases e2 : n = 1
    · rw [if_pos e2] at h; cases h; exact ⟨by decide, .builtin "ord", by decide +kernel, .inl ⟨_, rfl⟩, blt_ord⟩
    · rw [if_neg e2] at h; cases h
  rw [if_neg e] at h; clear e
  by_cases e : x = "max"
  · rw [if_pos e] at h; subst e
    by_cases e2 : n = 2
    · rw [if_pos e2] at h; cases h; exact ⟨by decide, .builtin "max", by decide +kernel, .inl ⟨_, rfl⟩, blt_max2 hx.calm⟩
    · rw [if_neg e2] at h
      by_cases e3 : n = 1
      · rw [if_pos e3] at h; cases h; exact ⟨by decide, .builtin "max", by decide +kernel, .inl ⟨_, rfl⟩, blt_max1 hx.calm⟩
      · rw [if_neg e3] at h; cases h
  rw [if_neg e] at h; clear e
  by_cases e : x = "min"
  · rw [if_pos e] at h; subst e
    by_cases e2 : n = 2
    · rw [if_pos e2] at h; cases h; exact ⟨by decide, .builtin "min", by decide +kernel, .inl ⟨_, rfl⟩, blt_min2 hx.calm⟩
    · rw [if_neg e2] at h
      by_cases e3 : n = 1
      · rw [if_pos e3] at h; cases h; exact ⟨by decide, .builtin "min", by decide +kernel, .inl ⟨_, rfl⟩, blt_min1 hx.calm⟩
      · rw [if_neg e3] at h; cases h
  rw [if_neg e] at h; clear e
  by_cases e : x = "dict"
  · rw [if_pos e] at h; subst e
    by_cases e2 : n = 1
    · rw [if_pos e2] at h; cases h; exact ⟨by decide, .type "dict", by decide +kernel, .inr ⟨_, rfl⟩, blt_dict hx.calm hx.u64⟩
    · rw [if_neg e2] at h; cases h
  rw [if_neg e] at h; clear e
  by_cases e : x = "sorted"
  · rw [if_pos e] at h; subst e
    by_cases e2 : n = 1
    · rw [if_pos e2] at h; cases h; exact ⟨by decide, .builtin "sorted", by decide +kernel, .inl ⟨_, rfl⟩, blt_sorted hx.calm hx.u64⟩
    · rw [if_neg e2] at h; cases h
  rw [if_neg e] at h; clear e
  cases h
theorem mthOk (hx : XO X c lin W k C) (x : Str) (n : Nat) (b : Blt) (h : mthOf x n = some b) : MtOk X x (bltF b) := by
  unfold mthOf at h
  by_cases e : x = "upper"
  · rw [if_pos e] at h; subst e
    by_cases e2 : n = 0
    · rw [if_pos e2] at h; cases h; exact mto_upper
    · rw [if_neg e2] at h; cases h
  rw [if_neg e] at h; clear e
  by_cases e : x = "strip"
  · rw [if_pos e] at h; subst e
    by_cases e2 : n = 1
    · rw [if_pos e2] at h; cases h; exact mto_strip
    · rw [if_neg e2] at h; cases h
  rw [if_neg e] at h; clear e
  by_cases e : x = "split"
  · rw [if_pos e] at h; subst e
    by_cases e2 : n = 1
    · rw [if_pos e2] at h; cases h; exact mto_split
    · rw [if_neg e2] at h; cases h
  rw [if_neg e] at h; clear e
  by_cases e : x = "join"
  · rw [if_pos e] at h; subst e
    by_cases e2 : n = 1
    · rw [if_pos e2] at h; cases h; exact mto_join
    · rw [if_neg e2] at h; cases h
  rw [if_neg e] at h; clear e
  by_cases e : x = "count"
  · rw [if_pos e] at h; subst e
    by_cases e2 : n = 1
    · rw [if_pos e2] at h; cases h; exact mto_count hx.u65
    · rw [if_neg e2] at h; cases h
  rw [if_neg e] at h; clear e
  by_cases e : x = "index"
  · rw [if_pos e] at h; subst e
    by_cases e2 : n = 1
    · rw [if_pos e2] at h; cases h; exact mto_index hx.u65
    · rw [if_neg e2] at h; cases h
  rw [if_neg e] at h; clear e
  cases h
theorem tyOf_name {x : Str} {t : Ty} (h : tyOf x = some t) : x = tyName t ∧ x ∈ bltNames := by
  unfold tyOf at h
  by_cases e : x = "int"
  · rw [if_pos e] at h; subst e; cases h; exact ⟨rfl, by decide⟩
  rw [if_neg e] at h; clear e
  by_cases e : x = "str"
  · rw [if_pos e] at h; subst e; cases h; exact ⟨rfl, by decide⟩
  rw [if_neg e] at h; clear e
  by_cases e : x = "bool"
  · rw [if_pos e] at h; subst e; cases h; exact ⟨rfl, by decide⟩
  rw [if_neg e] at h; clear e
  by_cases e : x = "tuple"
  · rw [if_pos e] at h; subst e; cases h; exact ⟨rfl, by decide⟩
  rw [if_neg e] at h; clear e
  by_cases e : x = "list"
  · rw [if_pos e] at h; subst e; cases h; exact ⟨rfl, by decide⟩
  rw [if_neg e] at h; clear e
  cases h
theorem tysOf_zip : ∀ {es : List Expr} {ts : List Ty}, tysOf es = some ts → ∃ ps : List Pos, ps.length = ts.length ∧ es = List.zipWith (fun t p => Expr.Name (tyName t) p) ts ps ∧ es.length = ts.length ∧ ∀ t ∈ ts, (tyName t : Str) ∈ bltNames
  | [], ts, h => by injection h with h; subst h; exact ⟨[], rfl, rfl, rfl, fun _ z => nomatch z⟩
  | e :: es, ts, h => by
    cases e with
    | Name x p =>
      simp only [tysOf, Option.bind_eq_some_iff, Option.map_eq_some_iff] at h
      obtain ⟨t, h1, ts', h2, rfl⟩ := h
      obtain ⟨rfl, h3⟩ := tyOf_name h1
      obtain ⟨ps, a, b, c, d⟩ := tysOf_zip h2
      exact ⟨p :: ps, by simp [a], by rw [List.zipWith_cons_cons, ← b], by simp [c], fun t' ht => by
        rcases List.mem_cons.mp ht with rfl | ht
        · exact h3
        · exact d t' ht⟩
    | _ => cases h
end
end BT
set_option Elab.async false
set_option linter.all false
set_option maxRecDepth 100000
set_option maxHeartbeats 8000000
/-! BTSnd2: the soundness of expressions. -/
namespace BT
open PySem PySem.Spec PyProof.Rows L2

theorem tgOf_tup {N : List Str} {es : List Expr} {k : Nat} {p : Pos} {t : Tg} (h : tgOf N (.Tuple es k p) = some t) : (∃ is, slotsOf N es = some is ∧ t = .tup is) ∨ ∃ (i : Nat) (is : List Nat) (x : Str) (p1 : Pos) (fs : List Expr) (kf : Nat) (pf : Pos), es = [.Name x p1, .Tuple fs kf pf] ∧ slotOf N x = some i ∧ slotsOf N fs = some is ∧ t = .nest i is := by
  simp only [tgOf] at h
  split at h
  · rename_i is e
    injection h with h
    exact .inl ⟨is, e, h.symm⟩
  · right
    unfold nestOf at h
    split at h
    · simp only [Option.bind_eq_some_iff, Option.map_eq_some_iff] at h
      obtain ⟨i, h1, is, h2, rfl⟩ := h
      exact ⟨i, is, _, _, _, _, _, rfl, h1, h2, rfl⟩
    · cases h
theorem tg_isT {N : List Str} {tg : Expr} {t : Tg} (h : tgOf N tg = some t) : isTupE tg = t.isT := by
  cases tg with
  | Name x p => simp only [tgOf, Option.map_eq_some_iff] at h; obtain ⟨i, _, rfl⟩ := h; rfl
  | Tuple es k p =>
    rcases tgOf_tup h with ⟨is, _, rfl⟩ | ⟨i, is, x, p1, fs, kf, pf, _, _, _, rfl⟩ <;> rfl
  | _ => cases h
theorem takesF {X : Cx} : Takes X (wx X.mg fun _ _ _ => False) := takes0.imp fun c d σ H h => by
  obtain ⟨_, _, _, z⟩ := h
  exact z
section
variable {X : Cx} {c : CC} {lin : Lc} {W : WishX} {k : Nat} {C : CallF}
theorem XO.blk (h : XO X c lin W k C) {s : Shared} {H : Hp} {scope : Scope} {cl : List (Str × Addr)} {C0 : Addr} {fp : List Addr} :
    XO (X.blk s H scope (compEnvC scope cl C0 X.env) fp) { c with sc := relS scope c.sc } lin (fun _ _ _ => False) k C where
  calm := h.calm
  room := h.room
  nd := h.nd
  hN := h.hN
  hsc := by
    show relS scope X.env.scope = relS scope c.sc
    rw [h.hsc]
  tk := takesF
  fns := h.fns
  blt := h.blt
  cons := h.cons
  hlin := h.hlin
  hn := h.hn
  hscr := h.hscr
  hkl := h.hkl
  cell := fun i ns e => ⟨⟨(h.cell i ns e).1.ex⟩, (h.cell i ns e).2⟩
  cellD := h.cellD
theorem ItOk.up {lo : Bool} {bd : Addr → Prop} {H0 : Hp} {J : It} {xs : List D} (h : ItOk X false lo bd H0 J xs) : ItOk X true lo bd H0 J xs where
  ex := by
    obtain ⟨G, Y, w, g1, g2⟩ := h.ex
    exact ⟨G, Y, w, fun H k => g1 H (Kp.of k), fun bd' gr i H x H' hi hb k y => g2 bd' gr i H x H' hi hb (Kp.of k) y⟩
  len := h.len
theorem IR.up {b lo : Bool} {f : En → R (List D)} {tg e : Expr} (h : PI X tg e (IR X W lin b lo f)) : PI X tg e (IR X W lin true lo f) := by
  cases b with
  | true => exact h
  | false =>
    refine pi_imp h fun σ H R h => ?_
    obtain ⟨bd, r, hb, he, q⟩ := h
    refine ⟨bd, r, hb, he, ?_⟩
    cases e1 : f r with
    | bad => simp only [e1] at q
    | exc c => simp only [e1] at q; exact q
    | ok xs => simp only [e1] at q; exact fun J H' s ok => q J H' s ok.up
theorem loc_of {sc : Scope} {x : Str} (h : isLoc sc x = true) : sc.names.lookup x = some .local ∨ sc.names.lookup x = some .cell := by
  unfold isLoc at h
  split at h
  · rename_i q; exact .inl q
  · rename_i q; exact .inr q
  · cases h
/-- a name of a comprehension's own as a target -/
theorem pg_own {s : Shared} {H : Hp} {scope : Scope} {cl : List (Str × Addr)} {C0 : Addr} {fp : List Addr} {x : Str} {i : Nat} {p : Pos} (hN : X.N.Nodup) (hi : X.N[i]? = some x) (hx : isLoc scope x = true) :
    PG (X.blk s H scope (compEnvC scope cl C0 X.env) fp) (.Name x p) (gName i) := by
  have hk := loc_of hx
  have hr : ∀ k, k ≠ NameKind.free → scope.names.lookup x = some k → (relS scope X.env.scope).names.lookup x = some k := fun k hk e => lookup_relS_keep hk e
  rcases hk with hk | hk
  · exact pg_name (X := X.blk s H scope (compEnvC scope cl C0 X.env) fp) hN hi (.inl (hr _ (by decide) hk)) (.inr (hr _ (by decide) hk))
  · refine pg_name (X := X.blk s H scope (compEnvC scope cl C0 X.env) fp) hN hi (.inr (hr _ (by decide) hk)) (.inl ?_)
    show (scope.names.lookup x == some .cell) = true
    rw [hk]; rfl
theorem assignNames : ∀ {N : List Str} {es : List Expr} {is : List Nat} {env : Env}, slotsOf N es = some is → (assignEach es env).length = is.length ∧ (assignEach es env).findIdx? (·.1) = none
  | N, [], is, env, h => by injection h with h; subst h; exact ⟨rfl, rfl⟩
  | N, e :: es, is, env, h => by
    cases e with
    | Name x p =>
      simp only [slotsOf, Option.bind_eq_some_iff, Option.map_eq_some_iff] at h
      obtain ⟨i, h1, is', h2, rfl⟩ := h
      obtain ⟨a, b⟩ := assignNames (env := env) h2
      refine ⟨by show (assignEach es env).length + 1 = _; rw [a]; rfl, ?_⟩
      show List.findIdx? (·.1) ((false, assign (.Name x p) env) :: assignEach es env) = none
      rw [List.findIdx?_cons, b]; rfl
    | _ => cases h
/-- targets in a row -/
theorem pgs_names {N : List Str} : ∀ {es : List Expr} {is : List Nat}, slotsOf N es = some is → (∀ x i p, slotOf N x = some i → x ∈ es.filterMap nmE → PG X (.Name x p) (gName i)) → PGs X es (gNames is)
  | [], is, h, _ => by injection h with h; subst h; exact pgs_nil
  | e :: es, is, h, hp => by
    cases e with
    | Name x p =>
      simp only [slotsOf, Option.bind_eq_some_iff, Option.map_eq_some_iff] at h
      obtain ⟨i, h1, is', h2, rfl⟩ := h
      exact pgs_cons (hp x i p h1 (.head _)) (pgs_names h2 fun y j p hj hy => hp y j p hj (.tail _ hy)) rfl
    | _ => cases h
theorem pg_tg {N : List Str} {tg : Expr} {t : Tg} (hc : X.calm = true) (h : tgOf N tg = some t) (hp : ∀ x i p, slotOf N x = some i → x ∈ namesOf tg → PG X (.Name x p) (gName i)) : PG X tg (gOf X.K t) := by
  cases tg with
  | Name x p =>
    simp only [tgOf, Option.map_eq_some_iff] at h
    obtain ⟨i, h1, rfl⟩ := h
    exact hp x i p h1 (.head _)
  | Tuple es k p =>
    rcases tgOf_tup h with ⟨is, h1, rfl⟩ | ⟨i, is, x, p1, fs, kf, pf, rfl, h1, h2, rfl⟩
    · obtain ⟨a, b⟩ := assignNames (env := X.env) h1
      exact pg_tup hc (pgs_names h1 fun y j p hj hy => hp y j p hj (List.mem_append.mpr (.inl hy))) a b
    · obtain ⟨a, b⟩ := assignNames (env := X.env) h2
      have g2 : PG X (.Tuple fs kf pf) (gTup X.K is.length (gNames is)) := pg_tup hc (pgs_names h2 fun y j p hj hy => hp y j p hj (List.mem_append.mpr (.inr (List.mem_flatMap.mpr ⟨_, .tail _ (.head _), hy⟩)))) a b
      exact pg_tup hc (pgs_cons (hp x i p1 h1 (List.mem_append.mpr (.inl (.head _)))) (pgs_cons g2 pgs_nil rfl) rfl) rfl rfl
  | _ => cases h
theorem tg_slots {N : List Str} {tg : Expr} {t : Tg} (h : tgOf N tg = some t) : ∀ i ∈ t.slots, i < N.length := by
  have h1 : ∀ {x : Str} {i : Nat}, slotOf N x = some i → i < N.length := fun h => (List.getElem?_eq_some_iff.mp (slotOf_get h)).1
  have h2 : ∀ {es : List Expr} {is : List Nat}, slotsOf N es = some is → ∀ i ∈ is, i < N.length := fun {es} => by
    induction es with
    | nil => intro is h i hi; injection h with h; subst h; cases hi
    | cons e es ih =>
      intro is h i hi
      cases e with
      | Name x p =>
        simp only [slotsOf, Option.bind_eq_some_iff, Option.map_eq_some_iff] at h
        obtain ⟨j, a, is', b, rfl⟩ := h
        rcases List.mem_cons.mp hi with rfl | hi
        · exact h1 a
        · exact ih b i hi
      | _ => cases h
  cases tg with
  | Name x p =>
    simp only [tgOf, Option.map_eq_some_iff] at h
    obtain ⟨i, a, rfl⟩ := h
    intro j hj
    have : j = i := by simpa [Tg.slots] using hj
    subst this
    exact h1 a
  | Tuple es k p =>
    rcases tgOf_tup h with ⟨is, a, rfl⟩ | ⟨i, is, x, p1, fs, kf, pf, rfl, a, b, rfl⟩
    · exact h2 a
    · intro j hj
      rcases List.mem_cons.mp hj with rfl | hj
      · exact h1 a
      · exact h2 b j hj
  | _ => cases h

/-- what is shown at a depth -/
structure CSnd (n : Nat) : Prop where
  e : ∀ {X c lin W k C}, XO X c lin W k C → ∀ e m, cE n c e = some m → PE X e (ER X W lin m.isLin (ev C m))
  t : ∀ {X c lin W k C}, XO X c lin W k C → ∀ j e m, tOk j e = true → cE n c e = some m → PT X e (TR X W lin fun r => (ev C m r).bind tst)
  es : ∀ {X c lin W k C}, XO X c lin W k C → ∀ es ms, cEs n c es = some ms → PA X es (AR X W lin (evs C ms)) ∧ ms.length = es.length ∧ es.any isStar = false
  es' : ∀ {X c lin W k C}, XO X c lin W k C → ∀ es ms, cEs' n c es = some ms → PA X es (ARt X W lin (evs C ms)) ∧ es.any isStar = false
  and : ∀ {X c lin W k C}, XO X c lin W k C → ∀ es m pos, cAnd n c es = some m → PE X (.BoolOp .And es pos) (ER X W lin false (ev C m)) ∧ m.isLin = false
  or : ∀ {X c lin W k C}, XO X c lin W k C → ∀ es m pos, cOr n c es = some m → PE X (.BoolOp .Or es pos) (ER X W lin false (ev C m)) ∧ m.isLin = false
  andT : ∀ {X c lin W k C}, XO X c lin W k C → ∀ j es m pos, es.all (tOk j) = true → cAnd n c es = some m → PW X (.BoolOp .And es pos) (TR X W lin fun r => (ev C m r).bind tst)
  orT : ∀ {X c lin W k C}, XO X c lin W k C → ∀ j es m pos, es.all (tOk j) = true → cOr n c es = some m → PW X (.BoolOp .Or es pos) (TR X W lin fun r => (ev C m r).bind tst)
  q : ∀ {X c lin W k C}, XO X c lin W k C → ∀ es m, cQ n c es = some m → PTs X es (TR X W lin fun r => (ev C m r).bind tst)
  o : ∀ {X c lin W k C}, XO X c lin W k C → ∀ o m, cO n c o = some m → PO X o (OR X W lin fun r => if m.absent then .ok none else (ev C m r).bind toI)
  i : ∀ {X c lin W k C}, XO X c lin W k C → ∀ tg e it, cI n c tg e = some it → ∃ b, PI X tg e (IR X W lin b (isTupE tg) fun r => (evs C it.2 r).bind (itemsF it.1)) ∧ (it.2.any M.isLin = false → b = false)
theorem evs1 {m : M} {r : En} {f : List D → R β} : (evs C [m] r).bind f = (ev C m r).bind fun d => f [d] := by
  simp only [evs]
  cases ev C m r <;> rfl
theorem evs2 {m m2 : M} {r : En} {f : List D → R β} : (evs C [m, m2] r).bind f = (ev C m r).bind fun d => (ev C m2 r).bind fun d2 => f [d, d2] := by
  simp only [evs]
  cases ev C m r <;> simp
  cases ev C m2 r <;> rfl
theorem er_congr {e : Expr} {b : Bool} {f g : En → R D} (h : PE X e (ER X W lin b f)) (e1 : ∀ r, g r = f r) : PE X e (ER X W lin b g) := by
  have : g = f := funext e1
  rw [this]; exact h
theorem ir_congr {tg e : Expr} {b lo : Bool} {f g : En → R (List D)} (h : PI X tg e (IR X W lin b lo f)) (e1 : ∀ r, g r = f r) : PI X tg e (IR X W lin b lo g) := by
  have : g = f := funext e1
  rw [this]; exact h
theorem er_false {e : Expr} {m : M} {f : En → R D} (h : PE X e (ER X W lin m.isLin f)) (e1 : m.isLin = false) : PE X e (ER X W lin false f) := by rw [e1] at h; exact h
theorem evs_len : ∀ {ms : List M} {r : En} {ds : List D}, evs C ms r = .ok ds → ds.length = ms.length
  | [], r, ds, h => by simp only [evs] at h; injection h with h; subst h; rfl
  | m :: ms, r, ds, h => by
    simp only [evs] at h
    obtain ⟨d, h1, h2⟩ := bind_okI h
    obtain ⟨ds', h3, h4⟩ := bind_okI h2
    injection h4 with h4; subst h4
    simp [evs_len h3]
theorem cs_zero : CSnd 0 := by
  constructor <;> intros <;> simp_all [cE, cEs, cEs', cAnd, cOr, cQ, cO, cI]
theorem cs_es {n : Nat} (ih : CSnd n) (hx : XO X c lin W k C) (es : List Expr) (ms : List M) (h : cEs (n + 1) c es = some ms) : PA X es (AR X W lin (evs C ms)) ∧ ms.length = es.length ∧ es.any isStar = false := by
  cases es with
  | nil => simp only [cEs] at h; injection h with h; subst h; exact ⟨a_nil, rfl, rfl⟩
  | cons e es =>
    simp only [cEs] at h
    split at h
    · cases h
    · rename_i hs
      simp only [Option.bind_eq_some_iff, Option.map_eq_some_iff] at h
      obtain ⟨m, h1, ms', h2, rfl⟩ := h
      obtain ⟨h3, h4⟩ := whole_some h1
      obtain ⟨a, b, d⟩ := ih.es hx es ms' h2
      have hs' : isStar e = false := by simpa using hs
      exact ⟨a_cons (er_false (ih.e hx e m h3) h4) a (star1 hs'), by simp [b], by rw [List.any_cons, hs', d]; rfl⟩
theorem cs_es' {n : Nat} (ih : CSnd n) (hx : XO X c lin W k C) (es : List Expr) (ms : List M) (h : cEs' (n + 1) c es = some ms) : PA X es (ARt X W lin (evs C ms)) ∧ es.any isStar = false := by
  cases es with
  | nil => simp only [cEs'] at h; injection h with h; subst h; exact ⟨at_nil, rfl⟩
  | cons e es =>
    simp only [cEs'] at h
    split at h
    · cases h
    · rename_i hs
      simp only [Option.bind_eq_some_iff, Option.map_eq_some_iff] at h
      obtain ⟨m, h1, ms', h2, rfl⟩ := h
      obtain ⟨a, d⟩ := ih.es' hx es ms' h2
      have hs' : isStar e = false := by simpa using hs
      exact ⟨at_cons (ih.e hx e m h1) a (star1 hs'), by rw [List.any_cons, hs', d]; rfl⟩
theorem cs_and {n : Nat} (ih : CSnd n) (hx : XO X c lin W k C) (es : List Expr) (m : M) (pos : Pos) (h : cAnd (n + 1) c es = some m) : PE X (.BoolOp .And es pos) (ER X W lin false (ev C m)) ∧ m.isLin = false := by
  match es, h with
  | [], h => simp [cAnd] at h
  | [e], h =>
    simp only [cAnd] at h
    obtain ⟨h3, h4⟩ := whole_some h
    exact ⟨s_one (er_false (ih.e hx e m h3) h4), h4⟩
  | e :: e2 :: es, h =>
    simp only [cAnd, Option.bind_eq_some_iff, Option.map_eq_some_iff] at h
    obtain ⟨x, h1, y, h2, rfl⟩ := h
    obtain ⟨h3, h4⟩ := whole_some h1
    obtain ⟨a, b⟩ := ih.and hx (e2 :: es) y pos h2
    exact ⟨er_congr (s_and (er_false (ih.e hx e x h3) h4) a) fun r => by simp only [ev], rfl⟩
theorem cs_or {n : Nat} (ih : CSnd n) (hx : XO X c lin W k C) (es : List Expr) (m : M) (pos : Pos) (h : cOr (n + 1) c es = some m) : PE X (.BoolOp .Or es pos) (ER X W lin false (ev C m)) ∧ m.isLin = false := by
  match es, h with
  | [], h => simp [cOr] at h
  | [e], h =>
    simp only [cOr] at h
    obtain ⟨h3, h4⟩ := whole_some h
    exact ⟨s_one (er_false (ih.e hx e m h3) h4), h4⟩
  | e :: e2 :: es, h =>
    simp only [cOr, Option.bind_eq_some_iff, Option.map_eq_some_iff] at h
    obtain ⟨x, h1, y, h2, rfl⟩ := h
    obtain ⟨h3, h4⟩ := whole_some h1
    obtain ⟨a, b⟩ := ih.or hx (e2 :: es) y pos h2
    exact ⟨er_congr (s_or (er_false (ih.e hx e x h3) h4) a) fun r => by simp only [ev], rfl⟩
theorem and_tst {f g : R D} : (f.bind fun x => (tst x).bind fun k => if k then g else .ok x).bind tst = (f.bind tst).bind fun k => if k then g.bind tst else .ok false := by
  cases f with
  | ok x =>
    simp only [R.bind_ok]
    cases e : tst x with
    | ok k =>
      simp only [R.bind_ok]
      cases k with
      | true => rfl
      | false => simp [e]
    | exc c => rfl
    | bad => rfl
  | exc c => rfl
  | bad => rfl
theorem or_tst {f g : R D} : (f.bind fun x => (tst x).bind fun k => if k then .ok x else g).bind tst = (f.bind tst).bind fun k => if k then .ok true else g.bind tst := by
  cases f with
  | ok x =>
    simp only [R.bind_ok]
    cases e : tst x with
    | ok k =>
      simp only [R.bind_ok]
      cases k with
      | true => simp [e]
      | false => rfl
    | exc c => rfl
    | bad => rfl
  | exc c => rfl
  | bad => rfl
theorem cs_andT {n : Nat} (ih : CSnd n) (hx : XO X c lin W k C) (j : Nat) (es : List Expr) (m : M) (pos : Pos) (ht : es.all (tOk j) = true) (h : cAnd (n + 1) c es = some m) : PW X (.BoolOp .And es pos) (TR X W lin fun r => (ev C m r).bind tst) := by
  match es, h, ht with
  | [], h, _ => simp [cAnd] at h
  | [e], h, ht =>
    simp only [cAnd] at h
    obtain ⟨h3, h4⟩ := whole_some h
    exact t_and1 (ih.t hx j e m (by simpa using ht) h3)
  | e :: e2 :: es, h, ht =>
    simp only [cAnd, Option.bind_eq_some_iff, Option.map_eq_some_iff] at h
    obtain ⟨x, h1, y, h2, rfl⟩ := h
    obtain ⟨h3, h4⟩ := whole_some h1
    rw [List.all_cons, Bool.and_eq_true] at ht
    exact pw_congr (t_and (ih.t hx j e x ht.1 h3) (ih.andT hx j (e2 :: es) y pos ht.2 h2)) fun r => by simp only [ev]; exact and_tst
theorem cs_orT {n : Nat} (ih : CSnd n) (hx : XO X c lin W k C) (j : Nat) (es : List Expr) (m : M) (pos : Pos) (ht : es.all (tOk j) = true) (h : cOr (n + 1) c es = some m) : PW X (.BoolOp .Or es pos) (TR X W lin fun r => (ev C m r).bind tst) := by
  match es, h, ht with
  | [], h, _ => simp [cOr] at h
  | [e], h, ht =>
    simp only [cOr] at h
    obtain ⟨h3, h4⟩ := whole_some h
    exact t_or1 (ih.t hx j e m (by simpa using ht) h3)
  | e :: e2 :: es, h, ht =>
    simp only [cOr, Option.bind_eq_some_iff, Option.map_eq_some_iff] at h
    obtain ⟨x, h1, y, h2, rfl⟩ := h
    obtain ⟨h3, h4⟩ := whole_some h1
    rw [List.all_cons, Bool.and_eq_true] at ht
    exact pw_congr (t_or (ih.t hx j e x ht.1 h3) (ih.orT hx j (e2 :: es) y pos ht.2 h2)) fun r => by simp only [ev]; exact or_tst
theorem cs_q {n : Nat} (ih : CSnd n) (hx : XO X c lin W k C) (es : List Expr) (m : M) (h : cQ (n + 1) c es = some m) : PTs X es (TR X W lin fun r => (ev C m r).bind tst) := by
  match es, h with
  | [], h =>
    simp only [cQ] at h; injection h with h; subst h
    refine ⟨fun pins s σ H Q I hq => pts_nil.run pins s σ H Q I ?_⟩
    obtain ⟨bd, r, hb, he, q⟩ := hq
    exact q H (Same.refl _)
  | [e], h =>
    simp only [cQ] at h
    split at h
    · rename_i ht; exact pts_one (ih.t hx n e m ht h)
    · cases h
  | e :: e2 :: es, h => simp [cQ] at h
theorem cs_o {n : Nat} (ih : CSnd n) (hx : XO X c lin W k C) (o : Option Expr) (m : M) (h : cO (n + 1) c o = some m) : PO X o (OR X W lin fun r => if m.absent then .ok none else (ev C m r).bind toI) := by
  cases o with
  | none => simp only [cO] at h; injection h with h; subst h; exact o_none
  | some e =>
    simp only [cO, Option.bind_eq_some_iff] at h
    obtain ⟨x, h1, h2⟩ := h
    split at h2
    · cases h2
    · rename_i ha
      injection h2 with h2; subst h2
      have := o_some (ih.e hx e x h1)
      have e : (fun r => if x.absent then R.ok none else (ev C x r).bind toI) = fun r => (ev C x r).bind toI := by
        funext r; rw [if_neg ha]
      rw [e]; exact this
theorem cs_i {n : Nat} (ih : CSnd n) (hx : XO X c lin W k C) (tg e : Expr) (it : ItK × List M) (h : cI (n + 1) c tg e = some it) : ∃ b, PI X tg e (IR X W lin b (isTupE tg) fun r => (evs C it.2 r).bind (itemsF it.1)) ∧ (it.2.any M.isLin = false → b = false) := by
  have plain : ∀ {it : ItK × List M}, ((cE n c e).map fun x => ((.plain, [x]) : ItK × List M)) = some it → ∃ b, PI X tg e (IR X W lin b (isTupE tg) fun r => (evs C it.2 r).bind (itemsF it.1)) ∧ (it.2.any M.isLin = false → b = false) := fun {it} h => by
    simp only [Option.map_eq_some_iff] at h
    obtain ⟨x, h1, rfl⟩ := h
    refine ⟨x.isLin, ir_congr (i_plain (ih.e hx e x h1)) fun r => ?_, fun z => by simpa using z⟩
    rw [evs1]; rfl
  simp only [cI] at h
  split at h
  · rename_i f p args pos
    by_cases hf : f = "range"
    · rw [if_pos hf] at h
      subst hf
      split at h
      · cases h
      · rename_i hg
        have hg : isGl c.sc "range" = true := by simpa using hg
        have hm := hx.blt "range" (by decide)
        match args, h with
        | [a], h =>
          simp only at h
          split at h
          · cases h
          · rename_i hs
            simp only [Option.map_eq_some_iff] at h
            obtain ⟨x, h1, rfl⟩ := h
            have hs' : isStar a = false := by simpa using hs
            exact ⟨false, i_range1 (hx.gl hg) hm (at_cons (ih.e hx a x h1) at_nil (star1 hs')) (star1 hs') false _, fun _ => rfl⟩
        | [a, b], h =>
          simp only at h
          split at h
          · cases h
          · rename_i hs
            simp only [Option.bind_eq_some_iff, Option.map_eq_some_iff] at h
            obtain ⟨x, h1, y, h2, rfl⟩ := h
            rw [Bool.not_eq_true, Bool.or_eq_false_iff] at hs
            exact ⟨false, i_range2 (hx.gl hg) hm (at_cons (ih.e hx a x h1) (at_cons (ih.e hx b y h2) at_nil (star1 hs.2)) (star1 hs.1)) (by rw [star1 hs.1, star1 hs.2]; rfl) (star1 hs.2) false _, fun _ => rfl⟩
        | [], h => simp at h
        | _ :: _ :: _ :: _, h => simp at h
    · rw [if_neg hf] at h
      by_cases hz : f = "zip"
      · rw [if_pos hz] at h
        subst hz
        match args, h with
        | [a, b], h =>
          simp only at h
          split at h
          · cases h
          · rename_i hs
            rw [Bool.not_eq_true, Bool.or_eq_false_iff, Bool.or_eq_false_iff, Bool.or_eq_false_iff, Bool.not_eq_false', Bool.not_eq_false'] at hs
            obtain ⟨⟨⟨hg, ha⟩, hb⟩, ht⟩ := hs
            rw [Option.map_eq_some_iff] at h
            obtain ⟨ms, h1, rfl⟩ := h
            obtain ⟨a1, a2, a3⟩ := ih.es hx [a, b] ms h1
            cases tg with
            | Tuple elts kk tpos => exact ⟨false, i_zip (hx.gl hg) (hx.blt "zip" (by decide)) a1 (star1 ha) (by rw [star1 hb]; rfl) false, fun _ => rfl⟩
            | _ => cases ht
        | [], h => simp at h
        | [_], h => simp at h
        | _ :: _ :: _ :: _, h => simp at h
      rw [if_neg hz] at h
      by_cases hen : f = "enumerate"
      · rw [if_pos hen] at h
        subst hen
        match args, h with
        | [a], h =>
          simp only at h
          split at h
          · cases h
          · rename_i hs
            rw [Bool.not_eq_true, Bool.or_eq_false_iff, Bool.or_eq_false_iff, Bool.not_eq_false', Bool.not_eq_false'] at hs
            obtain ⟨⟨hg, ha⟩, ht⟩ := hs
            rw [Option.map_eq_some_iff] at h
            obtain ⟨ms, h1, rfl⟩ := h
            obtain ⟨a1, a2, a3⟩ := ih.es hx [a] ms h1
            cases tg with
            | Tuple elts kk tpos => exact ⟨false, i_enum (hx.gl hg) (hx.blt "enumerate" (by decide)) a1 (star1 ha) false, fun _ => rfl⟩
            | _ => cases ht
        | [], h => simp at h
        | _ :: _ :: _, h => simp at h
      · rw [if_neg hen] at h
        exact plain h
  · exact plain h
end
end BT
set_option Elab.async false
set_option linter.all false
set_option maxRecDepth 100000
set_option maxHeartbeats 8000000
/-! BTRev: t[::-1] of a tuple or a list. -/
namespace BT
open PySem PySem.Spec PyProof.Rows L2
section
variable {prog : Program} {w : World} {A : Around} {E : Value → Shared → Prop} {s : Shared}
theorem rev_places (n : Nat) : Builtin.Slice.slicePlaces ((n : Int) - 1) (-1) (-1) = n := by
  unfold Builtin.Slice.slicePlaces
  have h1 : ¬ ((-1 : Int) > 0) := by decide
  simp only [h1, if_false]
  split
  · have e : (((n : Int) - 1 - -1 - 1) / (- -1)) = (n : Int) - 1 := by
      rw [show (- -1 : Int) = 1 by decide, Int.ediv_one]; omega
    first
      | (rw [e]; omega)
      | (simp; omega)
  · omega
theorem rev_adjust (n : Nat) : Builtin.Slice.sliceAdjust none none (-1) (n : Int) = ((n : Int) - 1, -1) := by
  unfold Builtin.Slice.sliceAdjust
  have h1 : ((-1 : Int) < 0) := by decide
  simp only [h1, if_true]
theorem rev_pick (xs : Array Value) : ((List.range xs.size).filterMap fun (m : Nat) => xs[(((xs.size : Int) - 1) + (m : Int) * (-1)).toNat]?).toArray = xs.toList.reverse.toArray := by
  have e : (List.range xs.size).filterMap (fun (m : Nat) => xs[(((xs.size : Int) - 1) + (m : Int) * (-1)).toNat]?) = ((List.range xs.size).map fun m => xs.size - 1 - m).filterMap (xs[·]?) := by
    have go : ∀ l : List Nat, (∀ m ∈ l, m < xs.size) → l.filterMap (fun (m : Nat) => xs[(((xs.size : Int) - 1) + (m : Int) * (-1)).toNat]?) = (l.map fun m => xs.size - 1 - m).filterMap (xs[·]?) := fun l => by
      induction l with
      | nil => intro _; rfl
      | cons m l ih =>
        intro h
        have h1 := h m (.head _)
        have e1 : (((xs.size : Int) - 1) + (m : Int) * (-1)).toNat = xs.size - 1 - m := by omega
        rw [List.filterMap_cons, List.map_cons, List.filterMap_cons, ih fun m' hm => h m' (.tail _ hm), e1]
    exact go _ fun m hm => List.mem_range.mp hm
  rw [e, PySem.W.krv_range, List.filterMap_reverse, PySem.W.krv_all]
theorem rev_applied {sl : Addr} {vs : Value} {n : Nat} {Q : Int × Int × Nat → Shared → Prop} (hs : s.heap.IsSliceOf sl .none .none vs) (pv : IsPart vs (some (-1)))
    (h : Q (((n : Int) - 1), -1, n) s) : wpAny (model prog w) A (Builtin.Slice.sliceApplied (.ref sl) (pure (n : Int))) Q E s := by
  obtain ⟨os, hos, hcs, hds⟩ := id hs
  unfold Builtin.Slice.sliceApplied Builtin.Slice.sliceFields
  refine wpAny_bind (wpAny_bind (wpAny_field hos hds (x := .none) rfl (wpAny_bind (wpAny_field hos hds (x := .none) rfl (wpAny_bind (wpAny_field hos hds (x := vs) rfl (wpAny_pure ?_)))))))
  refine wpAny_bind (HT.slicePart_ pv ?_)
  show wpAny _ _ (if ((-1 : Int) == 0) = true then _ else _) _ _ s
  rw [if_neg (by decide)]
  refine wpAny_bind (slicePart_none (wpAny_bind (slicePart_none (wpAny_bind (wpAny_pure ?_)))))
  show wpAny _ _ (match Builtin.Slice.sliceAdjust none none (-1) (n : Int) with | (lo, hi) => pure (lo, (-1 : Int), Builtin.Slice.slicePlaces lo hi (-1))) _ _ s
  rw [rev_adjust n]
  show wpAny _ _ (pure (((n : Int) - 1), (-1 : Int), Builtin.Slice.slicePlaces ((n : Int) - 1) (-1) (-1))) _ _ s
  rw [rev_places]
  exact wpAny_pure h
theorem rev_tuple {t sl : Addr} {items : Array Value} {vs : Value} {Q : Value → Shared → Prop} (ht : IsTup s.heap t items) (hs : s.heap.IsSliceOf sl .none .none vs) (pv : IsPart vs (some (-1)))
    (h : Q (.ref s.heap.objs.size) { s with heap := s.heap.push { cls := .type "tuple", data := .seq items.toList.reverse.toArray } }) (hsz : items.size ≤ sizeLine) :
    wpAny (model prog w) A (getItem (.ref t) (.ref sl)) Q E s := by
  have htake : sizeOk (.seq items.toList.reverse.toArray) := by
    show items.toList.reverse.toArray.size ≤ sizeLine
    rw [List.size_toArray, List.length_reverse, Array.length_toList]
    exact hsz
  obtain ⟨os, hos, hcs, hds⟩ := id hs
  have hTs : s.TypeIs (.ref sl) "slice" := ⟨os, hos, hcs⟩
  unfold getItem
  try with_reducible refine wpAny_holding ?_
  first | refine wpAny_bind (wpAny_pure ?_) | skip
  refine wpAny_bind (wpAny_sequenceKey ht.typeIs (by decide) ?_)
  refine wpAny_bind (wpAny_callSpecial?_slot (name := Str.ofString "__getitem__") ht.typeIs PyProof.Rows.slot_tuple_getitem
    (wpAny_call_entry PyProof.Rows.slot_tuple_getitem ht.typeIs entry_tuple_getitem ?_ (args_tuple_getitem _ _)))
  show wpAny _ _ (Builtin.Tuple.tupleItemsOf (.ref t) >>= _) _ _ s
  refine wpAny_bind (tupleItemsOf_ ht ?_)
  refine wpAny_bind (wpAny_typeOf hTs ?_)
  rw [if_pos (by decide)]
  refine wpAny_bind (rev_applied hs pv ?_)
  have hno : ¬ ((((items.size : Int) - 1) == 0 && (-1 : Int) == 1 && items.size == items.size) = true) := by
    intro q
    rw [Bool.and_eq_true, Bool.and_eq_true] at q
    exact absurd q.1.2 (by decide)
  show wpAny _ _ (if (((items.size : Int) - 1) == 0 && (-1 : Int) == 1 && items.size == items.size) = true then _ else _) _ _ s
  rw [if_neg hno, rev_pick]
  first
    | exact wpAny_bind (m := Builtin.Tuple.tupleExact _) (wpAny_newObj_type (wpAny_pure ⟨_, rfl, wpAny_pure h⟩) htake)
    | exact wpAny_bind (m := Builtin.Tuple.tupleExact _) (wpAny_newObj_type (wpAny_bind (wpAny_pure (wpAny_pure ⟨_, rfl, wpAny_pure h⟩))) htake)
    | exact wpAny_bind (wpAny_bind (m := Builtin.Tuple.tupleExact _) (wpAny_newObj_type (wpAny_pure (wpAny_pure ⟨_, rfl, wpAny_pure h⟩)) htake))
    | exact wpAny_bind (wpAny_bind (m := Builtin.Tuple.tupleExact _) (wpAny_newObj_type (wpAny_pure ⟨_, rfl, wpAny_pure h⟩) htake))
end
section
variable {X : Cx} {lin : Lc} {W : WishX}
theorem pe_rev {e : Expr} {te : TE} {k : Nat} {p1 p2 p3 pos : Pos} (he : PE X e te) : PE X (.Subscript e (.Slice none none (some (.UnaryOp .USub (.Constant (.int 1) k p1) p2)) p3) pos)
    (fun σ H Q => te σ H fun x H1 => ∃ a xs, x = .ref a ∧ xs.length ≤ sizeLine ∧ ((H1 a = some (.lst xs) ∧ ∀ p, H1 p = none → Q (.ref p) (upd H1 p (.lst xs.reverse))) ∨ (TupAt H1 a xs ∧ ∀ p o, H1 p = none → o.dict = none → Q (.ref p) (upd H1 p (.frz o (.tup xs.reverse)))))) := by
  refine ⟨fun pins s σ H Q I h => ?_⟩
  refine Subscript_ (thn (he.run pins s σ H _ I h) fun v s1 ⟨x, H1, I1, r1, q1⟩ => ?_)
  obtain ⟨a, xs, ex, hz, hx⟩ := q1
  subst ex
  cases r1
  have hst : PO X (some (.UnaryOp .USub (.Constant (.int 1) k p1) p2)) (tPart (tUn (rU fun i => .int (-i)) (tC (.int 1)))) := po_some (pe_un un_neg pe_int)
  refine wpAny_Slice (thn (po_none.run pins s1 σ H1 (fun o H2 => o = none ∧ H2 = H1) I1 ⟨rfl, rfl⟩) fun vl s2 ⟨l, H2, I2, pl, el, e2⟩ => ?_)
  subst el e2
  refine thn (po_none.run pins s2 σ H2 (fun o H3 => o = none ∧ H3 = H2) I2 ⟨rfl, rfl⟩) fun vu s3 ⟨u, H3, I3, pu, eu, e3⟩ => ?_
  subst eu e3
  refine thn (hst.run pins s3 σ H3 (fun o H4 => o = some (-1) ∧ H4 = H3) I3 ⟨1, rfl, -1, rfl, rfl, rfl⟩) fun vs s4 ⟨o, H4, I4, ps, eo, e4⟩ => ?_
  subst eo e4
  have I5 : Inv X pins σ H4 { s4 with heap := s4.heap.push { cls := .type "slice", data := .fields #[vl, vu, vs] } } := I4.kept (t' := s4.toks) fun b ob q => Heap.get?_push_of_some _ q
  cases pl
  cases pu
  rcases hx with ⟨hx, q⟩ | ⟨hx, q⟩
  · obtain ⟨its, r, ht, hz⟩ := I5.list (SqL.of hx)
    have hlen := r.length
    refine tail_any (ops := [.ref a, .ref s4.heap.objs.size]) ht.isList.typeIs (PySem.slot_list_getitem.lookup) ?_ (by with_unfolding_all rfl)
    refine wpAny_getItem_list_slice ht.isList (Heap.IsSliceOf.new _ .none .none vs) .none .none ps (by decide) ?_ (by rw [List.size_toArray]; omega)
    rw [PySem.W.krv_pick]
    refine ⟨.ref _, _, I5.laid (t' := s4.toks) (o := .lst xs.reverse) (fun b ob q => Heap.get?_push_of_some _ q) (Nat.le_refl _) ?_, rfl, q _ (I5.hok.fresh (Nat.le_refl _))⟩
    exact ⟨by rw [List.length_reverse]; exact hz, _, 0, r.reverse, Heap.get?_push_size _ rfl⟩
  · obtain ⟨its, r, ht, hz⟩ := I5.tuple hx.sq
    have hlen := r.length
    refine tail_any (ops := [.ref a, .ref s4.heap.objs.size]) ht.typeIs (PyProof.Rows.slot_tuple_getitem.lookup) ?_ (by with_unfolding_all rfl)
    refine rev_tuple ht (Heap.IsSliceOf.new _ .none .none vs) ps ?_ (by rw [List.size_toArray]; omega)
    refine ⟨.ref _, _, I5.laid (t' := s4.toks) (o := .frz (tObj its.reverse) (.tup xs.reverse)) (fun b ob q => Heap.get?_push_of_some _ q) (Nat.le_refl _) ?_, rfl, q _ _ (I5.hok.fresh (Nat.le_refl _)) rfl⟩
    exact ⟨Heap.get?_push_size _ rfl, by rw [List.length_reverse]; exact hz, _, r.reverse, IsTup.new _ _⟩
theorem s_rev {e : Expr} {b : Bool} {f : En → R D} {k : Nat} {p1 p2 p3 pos : Pos} (he : PE X e (ER X W lin b f)) : PE X (.Subscript e (.Slice none none (some (.UnaryOp .USub (.Constant (.int 1) k p1) p2)) p3) pos) (ER X W lin false fun r => (f r).bind revF) := by
  refine pe_imp (pe_rev he) fun σ H Q h => ?_
  refine ER.bind (b := b) (g := fun x _ => revF x) h fun bd r d v H1 hb he e1 rv q => ?_
  cases d with
  | list xs =>
    obtain ⟨a, us, rfl, ha, hl, hr⟩ := rv.t.listI
    exact ⟨a, us, rfl, hl, .inl ⟨ha, fun p hp => q _ _ (same_upd hp) (new_lst hb hp (by rw [List.length_reverse]; exact hl) hr.reverse)⟩⟩
  | tuple xs =>
    obtain ⟨a, us, rfl, _, ha, hl, hr⟩ := rv.t.tupI
    exact ⟨a, us, rfl, hl, .inr ⟨ha, fun p o hp ho => q _ _ (same_upd hp) (new_tup ho hb hp (by rw [List.length_reverse]; exact hl) hr.reverse)⟩⟩
  | _ => exact q.elim
end
end BT
set_option Elab.async false
set_option linter.all false
set_option maxRecDepth 100000
set_option maxHeartbeats 8000000
/-! BTSnd3: the soundness of expressions, last part. -/
namespace BT
open PySem PySem.Spec PyProof.Rows L2
section
variable {X : Cx} {c : CC} {lin : Lc} {W : WishX} {k : Nat} {C : CallF}
theorem okS_of {x : Str} (h : okSb x = true) : OkS x := by
  unfold okSb at h
  rw [Bool.and_eq_true, decide_eq_true_eq] at h
  exact ⟨h.1, h.2⟩
theorem c_name (hx : XO X c lin W k C) {n : Nat} {x : Str} {p : Pos} {m : M} (h : cE (n + 1) c (.Name x p) = some m) : PE X (.Name x p) (ER X W lin m.isLin (ev C m)) := by
  simp only [cE] at h
  by_cases hn : nameOk x = true
  · obtain ⟨n1, n2, n3⟩ := nameOk_of hn
    rw [if_neg (by rw [hn]; decide)] at h
    by_cases hv : isVis c.sc x = true
    · rw [if_pos hv, Option.bind_eq_some_iff] at h
      obtain ⟨i, h1, h2⟩ := h
      have hi : X.N[i]? = some x := by rw [hx.hN]; exact slotOf_get h1
      have key := s_var (W := W) (lin := lin) (pos := p) hi (hx.vis hv) n1 n2
      rw [hx.hlin] at key
      split at h2
      · cases h2
      · split at h2
        · rename_i hl
          injection h2 with h2; subst h2
          rw [decide_eq_true hl] at key
          exact er_congr key fun r => by simp only [ev]
        · rename_i hl
          injection h2 with h2; subst h2
          rw [decide_eq_false hl] at key
          exact er_congr key fun r => by simp only [ev]
    · rw [if_neg hv] at h
      split at h
      · rename_i hg
        obtain ⟨u, v, d, a1, a2, a3, a4, a5⟩ := hx.cons x m h
        rw [a4]
        exact er_congr (s_const (pe_glob (hx.gl hg) a1 a2 n1) a3) fun r => a5 C r
      · cases h
  · rw [if_pos (by simpa using hn)] at h
    cases h
theorem c_cell (hx : XO X c lin W k C) {s : Str} {ke : Expr} {y : M} {p ps pos : Pos} (hv : isVis c.sc s = true) (hn : nameOk s = true) (hs : slotOf c.N s = c.scr) (hsc : c.scr.isSome = true) (hg : isGl c.sc "_law_cell" = true) (hst : isStar ke = false) (hy : y.isLin = false) (h : PE X ke (ER X W lin y.isLin (ev C y))) :
    PE X (.Call (.Name "_law_cell" p) [.Name s ps, ke] [] pos) (ER X W lin false (ev C (.call "_law_cell" [y]))) := by
  obtain ⟨n1, n2, n3⟩ := nameOk_of hn
  cases e0 : c.scr with
  | none => rw [e0] at hsc; cases hsc
  | some i =>
    rw [e0] at hs
    have h0 := hx.hscr
    rw [e0, Option.map_eq_some_iff] at h0
    obtain ⟨⟨i', ns⟩, e1, e2⟩ := h0
    simp only at e2; subst e2
    obtain ⟨⟨fa, fd, prs, hps, hm, hk, hb, ok⟩, hC⟩ := hx.cell i' ns e1
    have hi : X.N[i']? = some s := by rw [hx.hN]; exact slotOf_get hs
    have hA : PA X [.Name s ps, ke] _ := pa_cons (pe_var (pos := ps) hi (hx.vis hv) n1 n2) (pa_cons h pa_nil (star1 hst)) rfl
    refine pe_imp (pe_callS (E := WE (wx X.mg W)) ok hx.room (hx.gl hg) hm hk hb (fun σ => passAt hx.tk σ) hA (by decide) rfl (by rw [star1 hst]; rfl)) fun σ H Q q => ?_
    obtain ⟨bd, r, hbd, hen, q⟩ := q
    obtain ⟨a, o, v1, v2⟩ := hen.scr i' ns e1
    refine ⟨.ref a, v1, bd, r, hbd, hen, ?_⟩
    simp only [ev, evs] at q
    cases e3 : ev C y r with
    | bad => simp only [e3, R.bind_bad] at q
    | exc c => simp only [e3, R.bind_exc] at q; exact q
    | ok d =>
      simp only [e3, R.bind_ok] at q
      intro v H1 s1 rv
      cases d with
      | int j =>
        rw [hC j] at q
        have := rv.t.intI
        subst this
        by_cases hj : 0 ≤ j
        · rw [if_pos hj] at q
          exact ⟨a, j, rfl, v2.elim (hx.hkl _ _ _) (fun z => .inl (.inr ⟨o, s1 _ _ z.2⟩)), hj, q _ H1 s1 (.int _)⟩
        · rw [if_neg hj] at q; exact q.elim
      | none => rw [hx.cellD _ (fun k z => by cases z)] at q; exact q.elim
      | bool b => rw [hx.cellD _ (fun k z => by cases z)] at q; exact q.elim
      | str b => rw [hx.cellD _ (fun k z => by cases z)] at q; exact q.elim
      | list b => rw [hx.cellD _ (fun k z => by cases z)] at q; exact q.elim
      | tuple b => rw [hx.cellD _ (fun k z => by cases z)] at q; exact q.elim
      | dict b => rw [hx.cellD _ (fun k z => by cases z)] at q; exact q.elim
theorem mem_lookup {names : List (Str × Nat)} : True := trivial
/-- a comprehension, its parts told -/
structure LcParts (X : Cx) (c : CC) (lin : Lc) (W : WishX) (C : CallF) (elt tg iter : Expr) (ifs : List Expr) (scope : Scope) (m : M) : Prop where
  ex : ∃ (own : List (Str × Nat)) (t : Tg) (fi : En → R (List D)) (q y : M), BlkOk X.N X.env.scope scope own ∧ PI X tg iter (IR X W lin true t.isT fi) ∧
    (∀ (s : Shared) (H : Hp) (C0 : Addr) (cl : List (Str × Addr)) (fp : List Addr), PG (X.blk s H scope (compEnvC scope cl C0 X.env) fp) tg (gOf X.K t)) ∧
    (∀ (s : Shared) (H : Hp) (C0 : Addr) (cl : List (Str × Addr)) (fp : List Addr), PTs (X.blk s H scope (compEnvC scope cl C0 X.env) fp) ifs (TR X (fun _ _ _ => False) lin fun r => (ev C q r).bind tst)) ∧
    (∀ (s : Shared) (H : Hp) (C0 : Addr) (cl : List (Str × Addr)) (fp : List Addr), PE (X.blk s H scope (compEnvC scope cl C0 X.env) fp) elt (ER X (fun _ _ _ => False) lin false (ev C y))) ∧
    (∀ x, foldedSetIterable iter X.env x = pure x) ∧ m.isLin = false ∧
    ∀ σ H Q, σ.length = X.N.length → ER X W lin false (ev C m) σ H Q → tLc (IR X W lin true t.isT fi) (gOf X.K t) (TR X (fun _ _ _ => False) lin fun r => (ev C q r).bind tst) (ER X (fun _ _ _ => False) lin false (ev C y)) (own.map (·.2)) σ H Q
theorem c_lc {n : Nat} (ih : CSnd n) (hx : XO X c lin W k C) {elt tg iter : Expr} {ifs : List Expr} {scope : Scope} {pos : Pos} {m : M} (h : cE (n + 1) c (.ListComp elt [⟨tg, iter, ifs, 0⟩] scope pos) = some m) : LcParts X c lin W C elt tg iter ifs scope m := by
  simp only [cE] at h
  split at h
  · cases h
  rename_i h0
  rw [Bool.not_eq_true, Bool.or_eq_false_iff, Bool.not_eq_false'] at h0
  rw [Option.bind_eq_some_iff] at h
  obtain ⟨t, h1, h⟩ := h
  split at h
  · cases h
  rename_i h2
  rw [Bool.not_eq_true, Bool.or_eq_false_iff, Bool.or_eq_false_iff, Bool.not_eq_false', Bool.not_eq_false'] at h2
  obtain ⟨⟨h2, h3⟩, h4⟩ := h2
  simp only [Option.bind_eq_some_iff, Option.map_eq_some_iff] at h
  obtain ⟨it, h5, q, h6, y, h7, rfl⟩ := h
  obtain ⟨h8, h9⟩ := whole_some h7
  obtain ⟨b, hi, _⟩ := ih.i hx tg iter it h5
  have hslot : ∀ i ∈ t.slots, i ∈ (ownOf c.N scope).map (·.2) ∧ i ∉ lin.lin ∧ ∀ j ns, lin.scr = some (j, ns) → j ≠ i := fun i hi => by
    have := List.all_eq_true.mp h2 i hi
    rw [Bool.and_eq_true, Bool.and_eq_true, decide_eq_true_eq] at this
    refine ⟨by simpa using this.1.1, by rw [hx.hlin]; simpa using this.1.2, fun j ns e z => ?_⟩
    subst z
    exact this.2 (by rw [← hx.hscr, e]; rfl)
  refine ⟨ownOf c.N scope, t, _, q, y, ?_, (by rw [tg_isT h1] at hi; exact IR.up hi), ?_, ?_, ?_, noFold h0.2, rfl, ?_⟩
  · rw [hx.hN, hx.hsc]; exact blkOk_by h0.1
  · intro s H C0 cl fp
    refine pg_tg (N := c.N) hx.calm h1 fun x i p hs hm => ?_
    have := List.all_eq_true.mp h3 x hm
    rw [Bool.and_eq_true] at this
    exact pg_own hx.nd (by rw [hx.hN]; exact slotOf_get hs) this.1
  · intro s H C0 cl fp
    exact ih.q (hx.blk (s := s) (H := H) (cl := cl) (C0 := C0) (fp := fp)) ifs q h6
  · intro s H C0 cl fp
    exact er_false (ih.e (hx.blk (s := s) (H := H) (cl := cl) (C0 := C0) (fp := fp)) elt y h8) h9
  · intro σ H Q hl hq
    refine er_lc (fun i hi => (hslot i hi).1) (fun i hi => ⟨by rw [hl, hx.hN]; exact tg_slots h1 i hi, (hslot i hi).2⟩) (fun j ns e z => ?_) ?_
    · obtain ⟨p, hp, rfl⟩ := List.mem_map.mp z
      have := List.any_eq_false.mp h4 p hp
      rw [decide_eq_true_eq] at this
      exact this (by rw [← hx.hscr, e]; rfl)
    · obtain ⟨bd, r, hbd, hen, q'⟩ := hq
      refine ⟨bd, r, hbd, hen, ?_⟩
      simp only [ev] at q'
      have e1 : ∀ (x : R (List D)) (g : D → R (Option D)), ((x.bind fun ds => (itemsF it.1 ds).bind fun xs => (lcN g xs).bind fun ys => .ok (.list ys)) : R D) = (x.bind (itemsF it.1)).bind fun xs => (lcN g xs).bind fun ys => .ok (.list ys) := fun x g => by
        cases x <;> rfl
      rw [e1] at q'
      exact q'
theorem LcParts.pe {elt tg iter : Expr} {ifs : List Expr} {scope : Scope} {m : M} {pos : Pos} (hx : XO X c lin W k C) (h : LcParts X c lin W C elt tg iter ifs scope m) : PE X (.ListComp elt [⟨tg, iter, ifs, 0⟩] scope pos) (ER X W lin m.isLin (ev C m)) := by
  obtain ⟨own, t, fi, q, y, h1, h2, h3, h4, h5, h6, h7, h8⟩ := h.ex
  rw [h7]
  exact pe_impL (pe_lc hx.calm hx.nd h2 h1 h3 h4 h5 h6) fun σ H Q hl hq => h8 σ H Q hl hq
end
end BT
set_option Elab.async false
set_option linter.all false
set_option maxRecDepth 100000
set_option maxHeartbeats 8000000
/-! BTSnd4: the soundness of expressions, put together. -/
namespace BT
open PySem PySem.Spec PyProof.Rows L2
section
variable {X : Cx} {c : CC} {lin : Lc} {W : WishX} {k : Nat} {C : CallF}
theorem len_ok {ms : List M} {es : List Expr} (h : ms.length = es.length) (hl : es.length ≤ 1000) : ∀ r ds, evs C ms r = .ok ds → ds.length ≤ sizeLine := fun r ds e => by
  rw [evs_len e, h]
  exact Nat.le_trans hl (by decide)
theorem blt0 {x : Str} {b : Blt} (h : bltOf x 0 = some b) : False := by
  unfold bltOf at h
  simp only [show ((0 : Nat) = 1) = False from by simp, show ((0 : Nat) = 2) = False from by simp, if_false, ite_self, reduceCtorEq] at h
theorem setArg_of {args : List Expr} {a : Expr} (h : setArg args = some a) : ∃ p2 q, args = [.Call (.Name "set" p2) [a] [] q] := by
  unfold setArg at h
  split at h
  · split at h
    · rename_i hg
      cases h
      exact ⟨_, _, by rw [hg]⟩
    · cases h
  · cases h
theorem c_call {n : Nat} (ih : CSnd n) (hx : XO X c lin W k C) {f : Str} {p pos : Pos} {args : List Expr} {m : M} (h : cE (n + 1) c (.Call (.Name f p) args [] pos) = some m) : PE X (.Call (.Name f p) args [] pos) (ER X W lin m.isLin (ev C m)) := by
  simp only [cE] at h
  by_cases h0 : (!nameOk f || !isGl c.sc f || args.any isStar) = true
  · rw [if_pos h0] at h; cases h
  rw [if_neg h0] at h
  rw [Bool.not_eq_true, Bool.or_eq_false_iff, Bool.or_eq_false_iff, Bool.not_eq_false', Bool.not_eq_false'] at h0
  obtain ⟨⟨hn, hg⟩, hst⟩ := h0
  obtain ⟨n1, n2, n3⟩ := nameOk_of hn
  by_cases hf : f = "isinstance"
  · rw [if_pos hf] at h
    subst hf
    have hm := hx.blt "isinstance" (by decide)
    split at h
    · rename_i a t p2
      split at h
      · rename_i hgt
        simp only [Option.bind_eq_some_iff, Option.map_eq_some_iff] at h
        obtain ⟨ty, h1, x, h2, rfl⟩ := h
        obtain ⟨rfl, hb⟩ := tyOf_name h1
        rw [List.any_cons, Bool.or_eq_false_iff] at hst
        exact er_congr (s_isi1 (hx.gl hg) hm (ih.e hx a x h2) (hx.gl hgt) (hx.blt _ hb) (star1 hst.1)) fun r => by simp only [ev]
      · cases h
    · rename_i a ts kk p2
      split at h
      · rename_i hgt
        rw [Bool.and_eq_true, decide_eq_true_eq] at hgt
        simp only [Option.bind_eq_some_iff, Option.map_eq_some_iff] at h
        obtain ⟨tys, h1, x, h2, rfl⟩ := h
        obtain ⟨ps, a1, a2, a3, a4⟩ := tysOf_zip h1
        rw [List.any_cons, Bool.or_eq_false_iff] at hst
        subst a2
        refine er_congr (s_isiT (hx.gl hg) hm (ih.e hx a x h2) (fun t ht => ⟨?_, hx.blt _ (a4 t ht)⟩) a1 ?_ (star1 hst.1)) fun r => by simp only [ev]
        · refine hx.gl ?_
          obtain ⟨i, hi, e⟩ := List.getElem_of_mem ht
          have hp : i < ps.length := by omega
          have hl : i < (List.zipWith (fun t p => Expr.Name (tyName t) p) tys ps).length := by rw [List.length_zipWith]; omega
          have := List.all_eq_true.mp hgt.1 _ (List.getElem_mem hl)
          rw [List.getElem_zipWith, e] at this
          exact this
        · rw [← a3]; exact Nat.le_trans hgt.2 (by decide)
      · cases h
    · cases h
  rw [if_neg hf] at h
  by_cases hf2 : f = "_law_cell"
  · rw [if_pos hf2] at h
    subst hf2
    split at h
    · rename_i s ps ke
      split at h
      · rename_i h1
        rw [Bool.and_eq_true, Bool.and_eq_true, Bool.and_eq_true, decide_eq_true_eq] at h1
        rw [Option.map_eq_some_iff] at h
        obtain ⟨y, h2, rfl⟩ := h
        obtain ⟨h3, h4⟩ := whole_some h2
        rw [List.any_cons, List.any_cons, Bool.or_eq_false_iff, Bool.or_eq_false_iff] at hst
        exact c_cell hx h1.1.1.1 h1.1.1.2 h1.1.2 h1.2 hg hst.2.1 h4 (ih.e hx ke y h3)
      · cases h
    · cases h
  rw [if_neg hf2] at h
  cases e1 : c.fns.lookup f with
  | some kk =>
    simp only [e1] at h
    split at h
    · rename_i h1
      rw [Bool.and_eq_true, decide_eq_true_eq] at h1
      rw [Option.map_eq_some_iff] at h
      obtain ⟨ms, h2, rfl⟩ := h
      obtain ⟨a1, a2, a3⟩ := ih.es hx args ms h2
      cases args with
      | nil => exact absurd h1.2 (by decide)
      | cons e es =>
        rw [List.any_cons, Bool.or_eq_false_iff] at a3
        exact er_congr (er_call (hx.fns f kk e1) hx.room (hx.gl hg) hx.tk h1.1 (fun r ds e => by rw [evs_len e, a2]) a1 n1 (star1 a3.1) (starAll a3.2)) fun r => by simp only [ev]
    · cases h
  | none =>
    cases e0 : setArg args with
    | some a =>
      simp only [e1, e0] at h
      split at h
      · rename_i hgs
        simp only [Option.bind_eq_some_iff, Option.map_eq_some_iff] at h
        obtain ⟨b, h1, ms, h2, rfl⟩ := h
        obtain ⟨a1, a3⟩ := ih.es' hx [a] ms h2
        obtain ⟨p2, q, rfl⟩ := setArg_of e0
        rw [List.any_cons, Bool.or_eq_false_iff] at a3
        exact er_congr (ofSet_ok hx.calm h1 (hx.gl hg) ⟨hx.blt "len" (by decide), hx.blt "sorted" (by decide)⟩ (hx.gl hgs) (hx.blt "set" (by decide)) a1 (star1 a3.1)) fun r => by simp only [ev]
      · cases h
    | none =>
    simp only [e1, e0, Option.bind_eq_some_iff, Option.map_eq_some_iff] at h
    obtain ⟨b, h1, ms, h2, rfl⟩ := h
    obtain ⟨b1, v, b2, b3, b4⟩ := bltOk hx f args.length b h1
    obtain ⟨a1, a3⟩ := ih.es' hx args ms h2
    cases args with
    | nil =>
      exfalso
      exact blt0 h1
    | cons e es =>
      rw [List.any_cons, Bool.or_eq_false_iff] at a3
      exact er_congr (s_blt b2 b3 b4 (hx.gl hg) (hx.blt f b1) a1 n3 n1 (star1 a3.1) (starAll a3.2)) fun r => by simp only [ev]
theorem c_mth {n : Nat} (ih : CSnd n) (hx : XO X c lin W k C) {o : Expr} {mt : Str} {apos cpos : Pos} {args : List Expr} {m : M} (h : cE (n + 1) c (.Call (.Attribute o mt apos) args [] cpos) = some m) : PE X (.Call (.Attribute o mt apos) args [] cpos) (ER X W lin m.isLin (ev C m)) := by
  simp only [cE] at h
  by_cases h0 : (args.any isStar || isCall0 o || !(apos.endLine == cpos.line) || decide (30 ≤ args.length)) = true
  · rw [if_pos h0] at h; cases h
  rw [if_neg h0] at h
  rw [Bool.not_eq_true, Bool.or_eq_false_iff, Bool.or_eq_false_iff, Bool.or_eq_false_iff, Bool.not_eq_false', decide_eq_false_iff_not] at h0
  obtain ⟨⟨⟨hst, hc0⟩, hline⟩, hlen⟩ := h0
  have few : ((backTo cpos (starEach args X.env)).all (fun x => !x.1) && (backToKw cpos (keywordEach [] X.env)).all (fun x => x.1.isSome) && decide (args.length + ([] : List Keyword).length + (if ([] : List Keyword).isEmpty then 0 else 1) < 30)) = true := by
    rw [starFew hst]
    show (true && true && decide (args.length + 0 + 0 < 30)) = true
    rw [decide_eq_true (by omega)]; rfl
  by_cases hf : mt = "get"
  · rw [if_pos hf] at h
    subst hf
    split at h
    · rename_i hl
      simp only [Option.bind_eq_some_iff, Option.map_eq_some_iff] at h
      obtain ⟨x, h1, ms, h2, rfl⟩ := h
      obtain ⟨a1, a2, a3⟩ := ih.es hx args ms h2
      cases args with
      | nil => cases hl
      | cons e es =>
        rw [List.any_cons, Bool.or_eq_false_iff] at a3
        exact er_congr (s_mthR (mto_get hx.u64) (ih.e hx o x h1) a1 (noBase hc0) few hline (star1 a3.1) (starAll a3.2)) fun r => by simp only [ev]
    · cases h
  rw [if_neg hf] at h
  simp only [Option.bind_eq_some_iff] at h
  obtain ⟨b, h1, x, h2, h3⟩ := h
  cases args with
  | nil =>
    simp only [Option.some.injEq] at h3; subst h3
    exact er_congr (s_mth0 (mthOk hx mt _ b h1) (ih.e hx o x h2) (noBase hc0) hline) fun r => by simp only [ev]; rw [evs1]
  | cons e es =>
    simp only [Option.map_eq_some_iff] at h3
    obtain ⟨ms, h3, rfl⟩ := h3
    obtain ⟨a1, a3⟩ := ih.es' hx (e :: es) ms h3
    rw [List.any_cons, Bool.or_eq_false_iff] at a3
    exact er_congr (s_mth (mthOk hx mt _ b h1) (ih.e hx o x h2) a1 (noBase hc0) few hline (star1 a3.1) (starAll a3.2)) fun r => by simp only [ev]
theorem cs_e {n : Nat} (ih : CSnd n) (hx : XO X c lin W k C) (e : Expr) (m : M) (h : cE (n + 1) c e = some m) : PE X e (ER X W lin m.isLin (ev C m)) := by
  have h' := h
  simp only [cE] at h
  split at h
  · exact c_name hx h'
  · injection h with h; subst h; exact er_congr (s_const pe_non fun _ _ => .non) fun r => by simp only [ev]
  · injection h with h; subst h; exact er_congr (s_const pe_bl fun _ _ => .bl _) fun r => by simp only [ev]
  · injection h with h; subst h; exact er_congr (s_const pe_int fun _ _ => .int _) fun r => by simp only [ev]
  · split at h
    · rename_i hs
      injection h with h; subst h; exact er_congr (s_const pe_str fun _ _ => .str (okS_of hs)) fun r => by simp only [ev]
    · cases h
  · split at h
    · rename_i hl
      rw [Option.map_eq_some_iff] at h
      obtain ⟨ms, h1, rfl⟩ := h
      obtain ⟨a1, a2, a3⟩ := ih.es hx _ ms h1
      exact er_congr (s_tup a1 (len_ok a2 hl)) fun r => by simp only [ev]
    · cases h
  · split at h
    · rename_i hl
      rw [Option.map_eq_some_iff] at h
      obtain ⟨ms, h1, rfl⟩ := h
      obtain ⟨a1, a2, a3⟩ := ih.es hx _ ms h1
      exact er_congr (s_lst a1 (len_ok a2 hl)) fun r => by simp only [ev]
    · cases h
  · simp only [Option.bind_eq_some_iff, Option.map_eq_some_iff] at h
    obtain ⟨o, h1, x, h2, y, h3, rfl⟩ := h
    exact er_congr (s_bin (binOk _ o h1) (ih.e hx _ x h2) (ih.e hx _ y h3)) fun r => by simp only [ev]
  · rw [Option.map_eq_some_iff] at h
    obtain ⟨x, h1, rfl⟩ := h
    exact er_congr (s_not (ih.e hx _ x h1)) fun r => by simp only [ev]
  · rw [Option.map_eq_some_iff] at h
    obtain ⟨x, h1, rfl⟩ := h
    exact er_congr (s_neg (ih.e hx _ x h1)) fun r => by
      simp only [ev]
      try (cases ev C x r with | ok d => cases d <;> rfl | exc c => rfl | bad => rfl)
  · obtain ⟨a, b⟩ := ih.and hx _ m ‹Pos› h
    rw [b]; exact a
  · obtain ⟨a, b⟩ := ih.or hx _ m ‹Pos› h
    rw [b]; exact a
  · split at h
    · rename_i ht
      simp only [Option.bind_eq_some_iff, Option.map_eq_some_iff] at h
      obtain ⟨q, h1, x, h2, y, h3, rfl⟩ := h
      obtain ⟨h4, h5⟩ := whole_some h2
      obtain ⟨h6, h7⟩ := whole_some h3
      exact er_congr (s_ife (ih.t hx n _ q ht h1) (er_false (ih.e hx _ x h4) h5) (er_false (ih.e hx _ y h6) h7)) fun r => by simp only [ev]
    · cases h
  · split at h
    · cases h
    · rename_i hs
      simp only [Option.bind_eq_some_iff, Option.map_eq_some_iff] at h
      obtain ⟨o, h1, x, h2, y, h3, rfl⟩ := h
      exact er_congr (s_cmp (cmpOk hx _ o h1) (ih.e hx _ x h2) (ih.e hx _ y h3) (noMark (by simpa using hs))) fun r => by simp only [ev]
  · split at h
    · cases h
    · rename_i hs
      simp only [Option.bind_eq_some_iff, Option.map_eq_some_iff] at h
      obtain ⟨o, h1, o2, h2, x, h3, y, h4, z, h5, rfl⟩ := h
      exact er_congr (s_chain (cmpOk hx _ o h1) (cmpOk hx _ o2 h2) (ih.e hx _ x h3) (ih.e hx _ y h4) (ih.e hx _ z h5) (noMark2 (by simpa using hs))) fun r => by simp only [ev]
  · rw [Option.map_eq_some_iff] at h
    obtain ⟨x, h1, rfl⟩ := h
    exact er_congr (s_rev (ih.e hx _ x h1)) fun r => by simp only [ev]
  · simp only [Option.bind_eq_some_iff, Option.map_eq_some_iff] at h
    obtain ⟨x, h1, l, h2, u, h3, rfl⟩ := h
    exact er_congr (s_slc (ih.e hx _ x h1) (ih.o hx _ l h2) (ih.o hx _ u h3)) fun r => by simp only [ev]
  · split at h
    · cases h
    · rename_i hs
      simp only [Option.bind_eq_some_iff, Option.map_eq_some_iff] at h
      obtain ⟨x, h1, y, h2, rfl⟩ := h
      exact er_congr (s_idx hx.u64 (ih.e hx _ x h1) (ih.e hx _ y h2) (plainIx (by simpa using hs))) fun r => by simp only [ev]
  · exact c_call ih hx h'
  · exact c_mth ih hx h'
  · exact (c_lc ih hx h').pe hx
  · cases h
theorem cs_t {n : Nat} (ih : CSnd n) (hx : XO X c lin W k C) (j : Nat) (e : Expr) (m : M) (ht : tOk j e = true) (h : cE (n + 1) c e = some m) : PT X e (TR X W lin fun r => (ev C m r).bind tst) := by
  have he := cs_e ih hx e m h
  cases j with
  | zero => cases ht
  | succ j =>
    cases e with
    | BoolOp op es pos =>
      have ht' : es.all (tOk j) = true := ht
      cases op with
      | And => simp only [cE] at h; exact (ih.andT hx j es m pos ht' h).pt
      | Or => simp only [cE] at h; exact (ih.orT hx j es m pos ht' h).pt
    | UnaryOp op a pos =>
      cases op with
      | Not =>
        have ht' : tOk j a = true := ht
        simp only [cE, Option.map_eq_some_iff] at h
        obtain ⟨x, h1, rfl⟩ := h
        refine pt_congr (t_not (ih.t hx j a x ht' h1)) fun r => ?_
        simp only [ev]
        cases ev C x r with
        | ok d => simp only [R.bind_ok]; cases tst d <;> rfl
        | exc c => rfl
        | bad => rfl
      | _ => exact t_truth he fun _ => rfl
    | IfExp a b d pos => cases ht
    | Compare a ops bs pos =>
      match ops, bs, h, he with
      | [op], [b], h, he =>
        simp only [cE] at h
        split at h
        · cases h
        · rename_i hs
          simp only [Option.bind_eq_some_iff, Option.map_eq_some_iff] at h
          obtain ⟨o, h1, x, h2, y, h3, rfl⟩ := h
          refine pt_congr (t_cmp (cmpOk hx _ o h1) (ih.e hx _ x h2) (ih.e hx _ y h3) (noMark (by simpa using hs))) fun r => ?_
          simp only [ev]
          cases ev C x r with
          | ok d =>
            simp only [R.bind_ok]
            cases ev C y r with
            | ok d2 => simp only [R.bind_ok]; cases cmpF o d d2 <;> rfl
            | exc c => rfl
            | bad => rfl
          | exc c => rfl
          | bad => rfl
      | [op, op2], [b, d], h, he =>
        simp only [cE] at h
        split at h
        · cases h
        · rename_i hs
          simp only [Option.bind_eq_some_iff, Option.map_eq_some_iff] at h
          obtain ⟨o, h1, o2, h2, x, h3, y, h4, z, h5, rfl⟩ := h
          refine pt_congr (t_chain (cmpOk hx _ o h1) (cmpOk hx _ o2 h2) (ih.e hx _ x h3) (ih.e hx _ y h4) (ih.e hx _ z h5) (noMark2 (by simpa using hs))) fun r => ?_
          simp only [ev]
          cases ev C x r with
          | ok d =>
            simp only [R.bind_ok]
            cases ev C y r with
            | ok d2 =>
              simp only [R.bind_ok]
              cases cmpF o d d2 with
              | ok q =>
                cases q with
                | false => rfl
                | true =>
                  simp only [R.bind_ok, if_true]
                  cases ev C z r with
                  | ok d3 => simp only [R.bind_ok]; cases cmpF o2 d2 d3 <;> rfl
                  | exc c => rfl
                  | bad => rfl
              | exc c => rfl
              | bad => rfl
            | exc c => rfl
            | bad => rfl
          | exc c => rfl
          | bad => rfl
      | [], _, h, he => simp only [cE] at h; cases h
      | [_], [], h, he => simp only [cE] at h; cases h
      | [_], _ :: _ :: _, h, he => simp only [cE] at h; cases h
      | [_, _], [], h, he => simp only [cE] at h; cases h
      | [_, _], [_], h, he => simp only [cE] at h; cases h
      | [_, _], _ :: _ :: _ :: _, h, he => simp only [cE] at h; cases h
      | _ :: _ :: _ :: _, _, h, he => simp only [cE] at h; cases h
    | _ => exact t_truth he fun _ => rfl
theorem cSnd : ∀ n, CSnd n
  | 0 => cs_zero
  | n + 1 => by
    have ih := cSnd n
    exact ⟨cs_e ih, cs_t ih, cs_es ih, cs_es' ih, cs_and ih, cs_or ih, cs_andT ih, cs_orT ih, cs_q ih, cs_o ih, cs_i ih⟩
end
end BT
set_option Elab.async false
set_option linter.all false
set_option maxRecDepth 100000
set_option maxHeartbeats 8000000
/-! BTSwp: when stores are exchanged. -/
namespace BT
open PySem PySem.Spec PyProof.Rows L2
def blkKd (sc : Scope) : ScopeKind := if sc.kind.isAnnotationScope then .function else sc.kind
def swB (sc : Scope) (x : Str) (px : Pos) (scope : Scope) (pos : Pos) : Bool := blkKd sc == .function && sc.names.lookup x == some .local && px.line == pos.line && !(scope.names.any fun (n, k) => n == x && (k == .local || k == .cell))
theorem sw_lc {elt : Expr} {gs : List Comprehension} {scope : Scope} {pos px : Pos} {x : Str} {l : Nat} {env : Env} : swapsWith (.ListComp elt gs scope pos) (some (.Name x px)) l env = pure (swB env.scope x px scope pos) := rfl
def isLcE : Expr → Bool
  | .ListComp .. => true
  | .SetComp .. => true
  | .DictComp .. => true
  | _ => false
theorem sw_no {e : Expr} {t : Option Expr} {l : Nat} {env : Env} (h : isLcE e = false) : swapsWith e t l env = pure false := by
  cases e <;> first | rfl | cases h
theorem sw_tup {e : Expr} {es : List Expr} {k : Nat} {p : Pos} {l : Nat} {env : Env} : swapsWithSole [.Tuple es k p] e l env = pure false := by
  cases e <;> rfl
theorem st_no {e : Expr} {es : List Expr} {k : Nat} {p : Pos} {env : Env} (h : isTupE e = false) : swappedStores [.Tuple es k p] e env = pure none := by
  cases e <;> first | rfl | cases h
def locNames (sc : Scope) (line : Nat) (ts : List Expr) : List Str := ts.filterMap fun e => match e with
  | .Name id pos => if sc.names.lookup id == some .local && pos.line == line then some id else none
  | _ => none
def swS (sc : Scope) (ts vs : List Expr) : Option (Option (List Str)) :=
  if (!(ts.length == 2 || ts.length == 3) || vs.length != ts.length || blkKd sc != .function) = true then some none
  else if vs.any isStar = true then some none
  else
    let names := locNames sc ((ts.head?.map (·.pos.line)).getD 0) ts
    if (names.length != ts.length || names.eraseDups.length != names.length) = true then some none
    else if vs.all (foldedForSure 8) = true then some none
    else if vs.all (constantsAlone 8) = true then none
    else some (some names)
theorem sw_of {env : Env} {ts vs : List Expr} {k k2 : Nat} {p p2 : Pos} {o : Option (List Str)} (h : swS env.scope ts vs = some o) : swappedStores [.Tuple ts k p] (.Tuple vs k2 p2) env = pure o := by
  unfold swS at h
  have hst : (fun e : Expr => match e with | .Starred .. => true | _ => false) = isStar := by
    funext e; cases e <;> rfl
  show (if (!(ts.length == 2 || ts.length == 3) || vs.length != ts.length || blkKd env.scope != .function) = true then pure none else
    if (vs.any fun e => match e with | .Starred .. => true | _ => false) = true then pure none else
    if ((locNames env.scope ((ts.head?.map (·.pos.line)).getD 0) ts).length != ts.length || (locNames env.scope ((ts.head?.map (·.pos.line)).getD 0) ts).eraseDups.length != (locNames env.scope ((ts.head?.map (·.pos.line)).getD 0) ts).length) = true then pure none
    else if vs.all (foldedForSure 8) = true then pure none
    else if vs.all (constantsAlone 8) = true then (unsupported "assign.tuple-of-constant-expressions:order-of-the-stores" >>= fun _ => pure (some (locNames env.scope ((ts.head?.map (·.pos.line)).getD 0) ts)))
    else pure (some (locNames env.scope ((ts.head?.map (·.pos.line)).getD 0) ts)) : Sem (Option (List Str))) = pure o
  rw [hst]
  by_cases c1 : (!(ts.length == 2 || ts.length == 3) || vs.length != ts.length || blkKd env.scope != .function) = true
  · rw [if_pos c1] at h ⊢; injection h with h; rw [h]
  rw [if_neg c1] at h ⊢
  by_cases c2 : vs.any isStar = true
  · rw [if_pos c2] at h ⊢; injection h with h; rw [h]
  rw [if_neg c2] at h ⊢
  simp only at h
  by_cases c3 : ((locNames env.scope ((ts.head?.map (·.pos.line)).getD 0) ts).length != ts.length || (locNames env.scope ((ts.head?.map (·.pos.line)).getD 0) ts).eraseDups.length != (locNames env.scope ((ts.head?.map (·.pos.line)).getD 0) ts).length) = true
  · rw [if_pos c3] at h ⊢; injection h with h; rw [h]
  rw [if_neg c3] at h ⊢
  by_cases c4 : vs.all (foldedForSure 8) = true
  · rw [if_pos c4] at h ⊢; injection h with h; rw [h]
  rw [if_neg c4] at h ⊢
  by_cases c5 : vs.all (constantsAlone 8) = true
  · rw [if_pos c5] at h; cases h
  rw [if_neg c5] at h ⊢
  injection h with h; rw [h]
end BT
set_option Elab.async false
set_option linter.all false
set_option maxRecDepth 100000
set_option maxHeartbeats 8000000
/-! BTLin: statements that change what a slot of its own holds. -/
namespace BT
open PySem PySem.Spec PyProof.Rows L2
section
variable {X : Cx} {W : WishX} {lin : Lc} {P : Program} {w : World} {H0 H H' : Hp} {bd0 : Addr → Prop} {r : En} {σ : L2.St}
theorem bdOf_upd {i : Nat} {d0 d : D} (hr : r[i]? = some (some d0)) : bdOf bd0 lin (put r i d) σ = bdOf bd0 lin r σ := by
  funext a
  apply propext
  constructor
  · rintro (z | ⟨j, e, hj, h1, h2⟩)
    · exact .inl z
    · rcases put_get h1 with ⟨rfl, _⟩ | ⟨_, h1⟩
      · exact .inr ⟨j, d0, hj, hr, h2⟩
      · exact .inr ⟨j, e, hj, h1, h2⟩
  · rintro (z | ⟨j, e, hj, h1, h2⟩)
    · exact .inl z
    · by_cases hji : j = i
      · subst hji
        refine .inr ⟨j, d, hj, ?_, h2⟩
        unfold BT.put
        rw [List.getElem?_set_self (List.getElem?_eq_some_iff.mp h1).1]
      · refine .inr ⟨j, e, hj, ?_, h2⟩
        unfold BT.put
        rw [List.getElem?_set_ne (Ne.symm hji)]; exact h1
/-- what a changing slot holds is changed in place -/
theorem StOk.upd {i : Nat} {a : Addr} {d0 d : D} {o : HO} (h : StOk P w H0 bd0 lin r σ H) (hi : i ∈ lin.lin) (hr : r[i]? = some (some d0)) (hs : σ[i]? = some (some (.ref a))) (hf : ∀ o' u, H a ≠ some (.frz o' u))
    (hn : RepT P w (upd H a o) (bdOf bd0 lin r σ) (.ref a) d) : StOk P w H0 bd0 lin (BT.put r i d) σ (L2.upd H a o) := by
  have hbd : bdOf bd0 lin r σ a := .inr ⟨i, d0, hi, hr, hs⟩
  have kp : Keep (bdOf bd0 lin r σ) H (L2.upd H a o) := fun b u nb e => by
    have : b ≠ a := fun z => nb (z ▸ hbd)
    unfold L2.upd
    rw [if_neg this]; exact e
  have gr : ∀ b, bdOf bd0 lin r σ b → bdOf bd0 lin r σ b ∨ H b = none := fun b z => .inl z
  obtain ⟨a', ha', h0⟩ := h.own i d0 hi hr
  rw [hs] at ha'; cases ha'
  have at_ : ∀ {b : Addr}, b ≠ a → L2.upd H a o b = H b := fun {b} hb => by unfold L2.upd; rw [if_neg hb]
  refine ⟨fun b u e => ?_, h.bad0, ⟨fun j e he => ?_, fun j ns e => ?_⟩, fun j e hj he => ?_, fun j k e f b hj hk h1 h2 h3 h4 => ?_, h.len⟩
  · have : b ≠ a := fun z => by rw [z, h0] at e; cases e
    rw [at_ this]; exact h.same b u e
  · rw [bdOf_upd hr]
    rcases put_get he with ⟨rfl, rfl⟩ | ⟨hji, he⟩
    · refine ⟨.ref a, hs, ?_⟩
      rw [decide_eq_true hi]
      exact hn
    · obtain ⟨v, e1, r1⟩ := h.env.vals j e he
      refine ⟨v, e1, ?_⟩
      by_cases hj : j ∈ lin.lin
      · rw [decide_eq_true hj] at r1 ⊢
        have ne : ∀ {b : Addr}, v = .ref b → b ≠ a := fun {b} hv z => by
          subst z hv
          exact hji (h.uniq j i e d0 b hj hi he hr e1 hs)
        cases (show RepT P w H (bdOf bd0 lin r σ) v e from r1) with
        | of q => exact RepT.of (Rep.go kp gr _ _ q)
        | lst ra la ta => exact RepT.lst (by rw [at_ (ne rfl)]; exact ra) la (RepL.go kp gr _ _ ta)
        | dK ra la ta => exact RepT.dK (by rw [at_ (ne rfl)]; exact ra) la (RepK.go kp gr _ _ ta)
        | dN ra la z ne' nd ta => exact RepT.dN (by rw [at_ (ne rfl)]; exact ra) la z ne' nd (RepN.go kp gr _ _ ta)
      · rw [decide_eq_false hj] at r1 ⊢
        exact Rep.go kp gr _ _ r1
  · obtain ⟨b, u, e1, h1⟩ := h.env.scr j ns e
    refine ⟨b, u, e1, h1.imp id fun z => ?_⟩
    have : b ≠ a := fun q => hf _ _ (q ▸ z.2)
    rw [at_ this]; exact z
  · rcases put_get he with ⟨rfl, rfl⟩ | ⟨_, he⟩
    · exact ⟨a, hs, h0⟩
    · exact h.own j e hj he
  · have g : ∀ {j : Nat} {e : D}, (BT.put r i d)[j]? = some (some e) → ∃ e', r[j]? = some (some e') := fun {j e} q => by
      rcases put_get q with ⟨rfl, _⟩ | ⟨_, q⟩
      · exact ⟨d0, hr⟩
      · exact ⟨e, q⟩
    obtain ⟨e', h1⟩ := g h1
    obtain ⟨f', h2⟩ := g h2
    exact h.uniq j k e' f' b hj hk h1 h2 h3 h4
theorem upd_self {a : Addr} {o : HO} : L2.upd H a o a = some o := by unfold L2.upd; rw [if_pos rfl]
theorem mk_append : MthK "append" "list" "list.append" := ⟨PySem.F.plainAttrs_list, PySem.F.slot_list_append, PySem.F.type_list_append⟩
theorem mk_extend : MthK "extend" "list" "list.extend" := ⟨PySem.F.plainAttrs_list, PySem.F.slot_list_extend, PySem.F.type_list_extend⟩
theorem mk_pop : MthK "pop" "list" "list.pop" := ⟨PySem.F.plainAttrs_list, PySem.F.slot_list_pop, PySem.F.type_list_pop⟩
theorem tyL {a : Addr} {vs : List V} {H : Hp} (ra : H a = some (.lst vs)) : TyIs X "list" (.ref a) H := fun pins σ s v I rv => tyV_is (x := .ref a) I rv (.inl ⟨rfl, vs, SqL.of ra⟩)
/-- the changing slot, read -/
theorem lin_list {i : Nat} {xs : List D} (ok : StOk P w H0 bd0 lin r σ H) (hi : i ∈ lin.lin) (hg : get r i = .ok (.list xs)) : ∃ a vs, σ[i]? = some (some (.ref a)) ∧ H a = some (.lst vs) ∧ vs.length ≤ sizeLine ∧ RepL P w H (bdOf bd0 lin r σ) vs xs ∧ r[i]? = some (some (.list xs)) := by
  have hr := get_ok hg
  obtain ⟨v, e1, r1⟩ := ok.env.vals i _ hr
  rw [decide_eq_true hi] at r1
  obtain ⟨a, vs, rfl, ra, la, ta⟩ := RepT.listI (show RepT P w H (bdOf bd0 lin r σ) v (.list xs) from r1)
  exact ⟨a, vs, e1, ra, la, ta, hr⟩
theorem st_app {i : Nat} {x : Str} {e : Expr} {p apos cpos pos : Pos} {f : En → R D} (hi : i ∈ lin.lin) (hN : X.N[i]? = some x) (hv : Vis X.env.scope x) (hd : (x == ("__debug__" : Str)) = false) (hcd : (x == ("__classdict__" : Str)) = false) (he : PE X e (ER X W lin false f))
    (hst : isStar e = false) (hline : (apos.endLine == cpos.line) = true) :
    PS X (.Expr (.Call (.Attribute (.Name x p) "append" apos) [e] [] cpos) pos) (SRd X W lin fun r => (get r i).toF r fun x => match x with
      | .list xs => (f r).toF r fun d => if xs.length < LIM then .nx (BT.put r i (.list (xs ++ [d]))) else .bad
      | _ => .bad) := by
  have hA := pa_cons he pa_nil (star1 (env := X.env) hst)
  refine ps_imp (ps_expr (pe_mth (pe_var (pos := p) hN hv hd hcd) hA rfl (by rw [starFew (by rw [List.any_cons, hst]; rfl)]; rfl) hline (star1 hst) rfl) rfl) fun D σ H h => ?_
  obtain ⟨H0, bd0, r, ok, q⟩ := h
  cases eg : get r i with
  | bad => simp only [eg, R.toF_bad] at q
  | exc c => exact (get_noexc eg).elim
  | ok dx =>
    simp only [eg, R.toF_ok] at q
    cases dx with
    | list xs =>
      simp only at q
      obtain ⟨a, vs, e1, ra, la, ta, hr⟩ := lin_list ok hi eg
      refine ⟨.ref a, e1, "list", "list.append", mk_append, tyL ra, _, r, ok.bad, ok.env, ?_⟩
      cases ef : f r with
      | bad => simp only [ef, R.toF_bad] at q
      | exc c => simp only [ef, R.toF_exc] at q; exact fun H' s => q σ H' (ok.kept s)
      | ok d =>
        simp only [ef, R.toF_ok] at q
        by_cases hl : xs.length < LIM
        · rw [if_pos hl] at q
          intro v H1 s1 rv
          have hl' : vs.length < sizeLine := by rw [ta.length]; exact hl
          refine ⟨_, mt_append, a, vs, v, rfl, rfl, s1 _ _ ra, hl', ?_⟩
          refine q σ _ ((ok.kept s1).upd hi hr e1 (fun o' u z => by rw [s1 _ _ ra] at z; cases z) (.lst upd_self (by rw [List.length_append, List.length_singleton]; omega) ?_))
          have hbd : bdOf bd0 lin r σ a := .inr ⟨i, _, hi, hr, e1⟩
          have kp : Keep (bdOf bd0 lin r σ) H1 (L2.upd H1 a (.lst (vs ++ [v]))) := fun b u nb e => by
            have : b ≠ a := fun z => nb (z ▸ hbd)
            unfold L2.upd
            rw [if_neg this]; exact e
          exact (RepL.go kp (fun b z => .inl z) _ _ (ta.same s1)).append (.cons (Rep.go kp (fun b z => .inl z) _ _ rv) .nil)
        · rw [if_neg hl] at q; exact q.elim
    | _ => exact q.elim
/-- the reading of an expression that makes a new object -/
def EF (X : Cx) (W : WishX) (lin : Lc) (f : En → R D) : TE := fun σ H Q => ∃ bd r, BadIn bd H ∧ EnvOk X.prog X.w bd lin r σ H ∧
  match f r with
  | .ok d => ∀ H1, Same H H1 → NewAt X H1 bd d Q
  | .exc c => ∀ H', Same H H' → W c σ H'
  | .bad => False
theorem linDom {i : Nat} {d : D} (h : StOk P w H0 bd0 lin r σ H) (hi : i ∈ lin.lin) (hr : r[i]? = some (some d)) {a : Addr} (hs : σ[i]? = some (some (.ref a))) : H a ≠ none := by
  obtain ⟨v, e1, r1⟩ := h.env.vals i d hr
  rw [decide_eq_true hi] at r1
  rw [hs] at e1; cases e1
  obtain ⟨o, e⟩ := repT_dom (show RepT P w H (bdOf bd0 lin r σ) (.ref a) d from r1)
  rw [e]; exact fun z => nomatch z
/-- a changing slot gets a new object -/
theorem StOk.fresh {i : Nat} {p : Addr} {o : HO} {d : D} (h : StOk P w H0 bd0 lin r σ H) (hi : i ∈ lin.lin) (hn : i < lin.n) (hs : ∀ j ns, lin.scr = some (j, ns) → j ≠ i) (hp : H p = none)
    (rv : RepT P w (L2.upd H p o) (fun a => bdOf bd0 lin r σ a ∨ a = p) (.ref p) d) : StOk P w H0 bd0 lin (BT.put r i d) (σ.set i (some (.ref p))) (L2.upd H p o) := by
  have hil : i < σ.length := by rw [h.len]; exact hn
  have sm : Same H (L2.upd H p o) := same_upd hp
  have sub : ∀ a, bdOf bd0 lin (BT.put r i d) (σ.set i (some (.ref p))) a → bdOf bd0 lin r σ a ∨ a = p := fun a z => by
    rcases z with z | ⟨j, e, hj, h1, h2⟩
    · exact .inl (.inl z)
    · by_cases hji : j = i
      · subst hji
        rw [List.getElem?_set_self hil] at h2
        cases h2
        exact .inr rfl
      · rcases put_get h1 with ⟨z, _⟩ | ⟨_, h1⟩
        · exact (hji z).elim
        · rw [lin_get hji] at h2
          exact .inl (.inr ⟨j, e, hj, h1, h2⟩)
  have grow : ∀ a, bdOf bd0 lin (BT.put r i d) (σ.set i (some (.ref p))) a → bdOf bd0 lin r σ a ∨ H a = none := fun a z => (sub a z).imp id fun e => by rw [e]; exact hp
  have kp : Keep (bdOf bd0 lin r σ) H (L2.upd H p o) := Keep.of sm
  have kp2 : Keep (fun a => bdOf bd0 lin r σ a ∨ a = p) (L2.upd H p o) (L2.upd H p o) := fun _ _ _ e => e
  have gr2 : ∀ a, bdOf bd0 lin (BT.put r i d) (σ.set i (some (.ref p))) a → (bdOf bd0 lin r σ a ∨ a = p) ∨ L2.upd H p o a = none := fun a z => .inl (sub a z)
  have pn : ∀ {j : Nat} {e : D}, j ∈ lin.lin → r[j]? = some (some e) → ¬ σ[j]? = some (some (.ref p)) := fun {j e} hj he q => linDom h hj he q hp
  refine ⟨h.same.trans sm, h.bad0, ⟨fun j e he => ?_, fun j ns e => ?_⟩, fun j e hj he => ?_, fun j k e f b hj hk h1 h2 h3 h4 => ?_, by rw [List.length_set]; exact h.len⟩
  · rcases put_get he with ⟨rfl, rfl⟩ | ⟨hji, he⟩
    · refine ⟨.ref p, by rw [List.getElem?_set_self hil], ?_⟩
      rw [decide_eq_true hi]
      show RepT P w _ _ _ _
      cases rv with
      | of q => exact .of (Rep.go kp2 gr2 _ _ q)
      | lst ra la ta => exact .lst ra la (RepL.go kp2 gr2 _ _ ta)
      | dK ra la ta => exact .dK ra la (RepK.go kp2 gr2 _ _ ta)
      | dN ra la z ne nd ta => exact .dN ra la z ne nd (RepN.go kp2 gr2 _ _ ta)
    · obtain ⟨v, e1, r1⟩ := h.env.vals j e he
      refine ⟨v, by rw [lin_get hji]; exact e1, ?_⟩
      by_cases hj : j ∈ lin.lin
      · rw [decide_eq_true hj] at r1 ⊢
        cases (show RepT P w H (bdOf bd0 lin r σ) v e from r1) with
        | of q => exact RepT.of (Rep.go kp grow _ _ q)
        | lst ra la ta => exact RepT.lst (sm _ _ ra) la (RepL.go kp grow _ _ ta)
        | dK ra la ta => exact RepT.dK (sm _ _ ra) la (RepK.go kp grow _ _ ta)
        | dN ra la z ne' nd ta => exact RepT.dN (sm _ _ ra) la z ne' nd (RepN.go kp grow _ _ ta)
      · rw [decide_eq_false hj] at r1 ⊢
        exact Rep.go kp grow _ _ r1
  · obtain ⟨b, u, e1, h1⟩ := h.env.scr j ns e
    exact ⟨b, u, by rw [lin_get (hs j ns e)]; exact e1, h1.imp id fun z => ⟨z.1, sm _ _ z.2⟩⟩
  · rcases put_get he with ⟨rfl, rfl⟩ | ⟨hji, he⟩
    · refine ⟨p, by rw [List.getElem?_set_self hil], ?_⟩
      cases e0 : H0 p with
      | none => rfl
      | some u => have := h.same _ _ e0; rw [hp] at this; cases this
    · rw [lin_get hji]; exact h.own j e hj he
  · by_cases hji : j = i
    · by_cases hki : k = i
      · rw [hji, hki]
      · subst hji
        rw [List.getElem?_set_self hil] at h3
        cases h3
        rcases put_get h2 with ⟨z, _⟩ | ⟨_, h2⟩
        · exact (hki z).elim
        · rw [lin_get hki] at h4
          exact (pn hk h2 h4).elim
    · have g1 : r[j]? = some (some e) := by
        rcases put_get h1 with ⟨z, _⟩ | ⟨_, h1⟩
        · exact (hji z).elim
        · exact h1
      rw [lin_get hji] at h3
      by_cases hki : k = i
      · subst hki
        rw [List.getElem?_set_self hil] at h4
        cases h4
        exact (pn hj g1 h3).elim
      · rcases put_get h2 with ⟨z, _⟩ | ⟨_, h2⟩
        · exact (hki z).elim
        rw [lin_get hki] at h4
        exact h.uniq j k e f b hj hk g1 h2 h3 h4
theorem st_setF {i : Nat} {x : Str} {e : Expr} {p pos : Pos} {f : En → R D} (hN : X.N.Nodup) (hi : X.N[i]? = some x) (hln : i < lin.n) (hx : Loc X.env.scope x) (hl : i ∈ lin.lin) (hs : ∀ j ns, lin.scr = some (j, ns) → j ≠ i) (he : PE X e (EF X W lin f))
    (hsw : swapsWith e (some (.Name x p)) pos.line X.env = pure false) (hf : X.fn x = true ∨ X.env.scope.names.lookup x = some .local) : PS X (.Assign [.Name x p] e pos) (SRd X W lin fun r => (f r).toF r fun d => .nx (BT.put r i d)) := by
  refine ps_imp (ps_set hN hi hx he hsw hf) fun D σ H h => ?_
  obtain ⟨H0, bd0, r, ok, q⟩ := h
  refine ⟨_, r, ok.bad, ok.env, ?_⟩
  cases e1 : f r with
  | bad => simp only [e1, R.toF_bad] at q
  | exc c => simp only [e1, R.toF_exc] at q; exact fun H' s => q σ H' (ok.kept s)
  | ok d =>
    simp only [e1, R.toF_ok] at q
    exact fun H1 s1 p o hp hr => q _ _ ((ok.kept s1).fresh hl hln hs hp hr)
/-- [..] -/
theorem f_lst {es : List Expr} {pos : Pos} {f : En → R (List D)} (h : PA X es (AR X W lin f)) (hl : ∀ r ds, f r = .ok ds → ds.length ≤ sizeLine) : PE X (.List es pos) (EF X W lin fun r => (f r).bind fun ds => .ok (.list ds)) := by
  refine pe_imp (pe_lst h) fun σ H Q h => ?_
  obtain ⟨bd, r, hb, he, q⟩ := h
  refine ⟨bd, r, hb, he, ?_⟩
  cases e1 : f r with
  | bad => simp only [e1, R.bind_bad] at q
  | exc c => simp only [e1, R.bind_exc] at q; exact q
  | ok ds =>
    simp only [e1, R.bind_ok] at q
    intro vs H1 s1 rs
    have hz : vs.length ≤ sizeLine := by rw [rs.length]; exact hl r ds e1
    refine ⟨hz, fun p hp => q H1 s1 p _ hp (.lst upd_same hz (RepL.go (Keep.of (same_upd hp)) (fun a z => z.imp id fun e => by rw [e]; exact hp) _ _ rs))⟩
/-- dict(pairs) -/
theorem f_dict {e : Expr} {p pos : Pos} {b : Bool} {f : En → R D} (hu : X.A.units + 64 < cLine) (hc : X.calm = true) (hg : Gl X "dict") (hm : X.mg "dict" = none) (he : PE X e (ER X W lin b f)) (hst : isStar e = false) :
    PE X (.Call (.Name "dict" p) [e] [] pos) (EF X W lin fun r => (f r).bind fun d => bltF .dict [d]) := by
  refine pe_imp (pe_callTy (call_dict_rep hc hu) hg hm (by decide +kernel) (pa_cons he pa_nil (star1 hst)) (by decide) (by decide) (star1 hst) rfl) fun σ H Q h => ?_
  obtain ⟨bd, r, hb, hen, q⟩ := h
  refine ⟨bd, r, hb, hen, ?_⟩
  cases e1 : f r with
  | bad => simp only [e1, R.bind_bad] at q
  | exc c => simp only [e1, R.bind_exc] at q; exact q
  | ok d =>
    simp only [e1, R.bind_ok] at q
    intro v H1 s1 rv
    have go : ∀ {xs : List D}, (d = .list xs ∨ d = .tuple xs) → bltF .dict [d] = ((R.ofO (pairsOf xs)).bind fun ps => .gd (fitAll ps) (.ok (.dict (dictFrom ps)))) → DictR X [v] H1 Q := fun {xs} hd e => by
      rw [e] at q
      cases hp : pairsOf xs with
      | none => rw [hp] at q; exact q.elim
      | some kds =>
        rw [hp] at q
        simp only [R.ofO, R.bind_ok] at q
        cases hf : fitAll kds with
        | false => rw [hf] at q; exact q.elim
        | true =>
          rw [hf] at q
          exact ⟨bd, v, d, xs, kds, rfl, hb.same s1, rv.t, hd, hp, hf, q H1 s1⟩
    cases d with
    | list xs => exact go (.inl rfl) rfl
    | tuple xs => exact go (.inr rfl) rfl
    | _ => exact q.elim
end
end BT
set_option Elab.async false
set_option linter.all false
set_option maxRecDepth 100000
set_option maxHeartbeats 8000000
/-! BTPut: d[k] = v. -/
namespace BT
open PySem PySem.Spec PyProof.Rows L2
section
variable {X : Cx} {W : WishX} {lin : Lc}
def PutR (X : Cx) (rr : V → V → V → Hp → (Hp → Prop) → Prop) : Prop := ∀ (pins : List (Addr × Obj)) (s : Shared) (σ : L2.St) (H : Hp) (x y v : V) (ux uy uv : Value) (K : Hp → Prop), Inv X pins σ H s → RelV x ux → RelV y uy → RelV v uv → rr x y v H K →
  wpAny (model X.prog X.w) X.A (setItem ux uy uv) (fun _ s' => ∃ H', Inv X pins σ H' s' ∧ K H') X.xe s
def anyPut (X : Cx) : V → V → V → Hp → (Hp → Prop) → Prop := fun x y v H K => ∃ rr, PutR X rr ∧ rr x y v H K
theorem sw_sub {e o i : Expr} {p : Pos} {l : Nat} {env : Env} : swapsWith e (some (.Subscript o i p)) l env = pure false := by cases e <;> rfl
theorem ps_putAny {o i value : Expr} {pos' pos : Pos} {to ti tv : TE} (ho : PE X o to) (hi : PE X i ti) (hv : PE X value tv) :
    PS X (.Assign [.Subscript o i pos'] value pos) (fun D σ H => tv σ H fun v H1 => to σ H1 fun x H2 => ti σ H2 fun y H3 => anyPut X x y v H3 fun H4 => D.nx σ H4) := by
  refine ⟨fun pins s σ H D I h => ?_⟩
  refine wpAny_Assign_Subscript (thn (hv.run pins s σ H _ I h) fun r s1 ⟨v, H1, I1, rv, q1⟩ => thn (ho.run pins s1 σ H1 _ I1 q1) fun u s2 ⟨x, H2, I2, rx, q2⟩ => thn (hi.run pins s2 σ H2 _ I2 q2) fun iv s3 ⟨y, H3, I3, ry, rr, hr, q3⟩ => ?_) sw_sub
  exact thn (hr pins s3 σ H3 x y v u iv r _ I3 rx ry rv q3) fun _ s4 ⟨H4, I4, q4⟩ => ⟨σ, H4, I4, q4⟩
theorem put_str (hu : X.A.units + 1 < cLine) : PutR X (fun x y v H K => ∃ a z kvs, x = .ref a ∧ y = .str z ∧ H a = some (.dK kvs) ∧ kvs.length < sizeLine ∧ K (upd H a (.dK (putK kvs (.inr z) v)))) := by
  intro pins s σ H x y v ux uy uv K I rx ry rv h
  obtain ⟨a, z, kvs, rfl, rfl, ha, hl, q⟩ := h
  cases rx
  exact d_setItem hu I (DPut.k (k := .inr z) ha hl) ry rv fun s' I' => ⟨_, I', q⟩
theorem put_tup (hu : X.A.units + 64 < cLine) : PutR X (fun x y v H K => ∃ bd a b kd k ds, x = .ref a ∧ y = .ref b ∧ KN X H bd b kd k ∧ (ds.all fun kv => isTupD kv.1) = true ∧ RepT X.prog X.w H bd (.ref a) (.dict ds) ∧ ds.length < sizeLine ∧
    ∀ xs u ep, RepN X.prog X.w H bd xs ds → RelV v u → (a == sysModules) = false → ((storedH xs k b u).map (·.1)).Nodup → K (upd H a (BT.dN X.prog X.w a ep (storedH xs k b u)))) := by
  intro pins s σ H x y v ux uy uv K I rx ry rv h
  obtain ⟨bd, a, b, kd, k, ds, rfl, rfl, kn, ht, rT, hl, q⟩ := h
  cases rx
  cases (show uy = Value.ref b from ry)
  obtain ⟨hsys, xs, hd, rn, hz⟩ := viewN (y := .non) I rT ht
  have mu : Mut (H a) := by
    obtain ⟨a', e, h⟩ := rT.dictI
    cases e
    rcases h with ⟨kvs, h1, _⟩ | ⟨_, xs, h1, _⟩
    · rw [h1]; exact True.intro
    · rw [h1]; exact True.intro
  refine wpAny_setItem_heap (hsz := hz) (room8 hu) (kn.is I) hd fun h' dd' hs => ?_
  obtain ⟨o, es, ep, g1, g2, g3, g4, g5, g6⟩ := dd'
  refine ⟨_, d_write I mu hs ⟨o, g1⟩ (ob := BT.dN X.prog X.w a ep (storedH xs k b uv)) ?_, q xs uv ep rn rv hsys g6⟩
  exact ⟨⟨o, es, g1, g2, g3, g4⟩, ⟨o, g1⟩, fun h1 h2 ⟨o', es', z1, z2, z3, z4⟩ kp => ⟨o', es', kp _ z1, z2, z3, z4⟩⟩
theorem dput_len {ds : List (D × D)} {k v : D} : (dput ds k v).length ≤ ds.length + 1 := by
  unfold dput
  split <;> simp
theorem st_put {i : Nat} {x : Str} {ke ve : Expr} {p pos' pos : Pos} {b1 : Bool} {fk fv : En → R D} (hu : X.A.units + 64 < cLine) (hi : i ∈ lin.lin) (hN : X.N[i]? = some x) (hv : Vis X.env.scope x) (hd : (x == ("__debug__" : Str)) = false) (hcd : (x == ("__classdict__" : Str)) = false)
    (hk : PE X ke (ER X W lin b1 fk)) (he : PE X ve (ER X W lin false fv)) :
    PS X (.Assign [.Subscript (.Name x p) ke pos'] ve pos) (SRd X W lin fun r => (fv r).toF r fun v => (get r i).toF r fun x => (fk r).toF r fun k => (putF x k v).toF r fun y => .nx (BT.put r i y)) := by
  refine ps_imp (ps_putAny (pe_var (pos := p) hN hv hd hcd) hk he) fun D σ H h => ?_
  obtain ⟨H0, bd0, r, ok, q⟩ := h
  refine ⟨_, r, ok.bad, ok.env, ?_⟩
  cases e1 : fv r with
  | bad => simp only [e1, R.toF_bad] at q
  | exc c => simp only [e1, R.toF_exc] at q; exact fun H' s => q σ H' (ok.kept s)
  | ok d =>
    simp only [e1, R.toF_ok] at q
    intro v H1 s1 rv
    have ok1 := ok.kept s1
    cases e2 : get r i with
    | bad => simp only [e2, R.toF_bad] at q
    | exc c => exact (get_noexc e2).elim
    | ok dx =>
      simp only [e2, R.toF_ok] at q
      have hr := get_ok e2
      obtain ⟨vx, f1, r1⟩ := ok1.env.vals i _ hr
      rw [decide_eq_true hi] at r1
      refine ⟨vx, f1, _, r, ok1.bad, ok1.env, ?_⟩
      cases e3 : fk r with
      | bad => simp only [e3, R.toF_bad] at q
      | exc c => simp only [e3, R.toF_exc] at q; exact fun H' s => q σ H' (ok1.kept s)
      | ok kd =>
        simp only [e3, R.toF_ok] at q
        intro y H2 s2 ry
        have ok2 := ok1.kept s2
        have rT : RepT X.prog X.w H2 (bdOf bd0 lin r σ) vx dx := RepT.same (show RepT X.prog X.w H1 (bdOf bd0 lin r σ) vx dx from r1) s2
        have rv2 : Rep X.prog X.w H2 (bdOf bd0 lin r σ) v d := Rep.same rv s2
        cases dx with
        | dict kvs =>
          cases e4 : putF (.dict kvs) kd d with
          | bad => simp only [e4, R.toF_bad] at q
          | exc c =>
            exfalso
            have : R.gd (keyFits kvs kd && decide (kvs.length < LIM)) (R.ok (PyData.dict (dput kvs kd d))) = .exc c := e4
            unfold R.gd at this
            split at this <;> cases this
          | ok dy =>
            simp only [e4, R.toF_ok] at q
            obtain ⟨g1, g2⟩ := gd_ok (show R.gd (keyFits kvs kd && decide (kvs.length < LIM)) (R.ok (PyData.dict (dput kvs kd d))) = .ok dy from e4)
            injection g2 with g2; subst g2
            rw [Bool.and_eq_true, decide_eq_true_eq] at g1
            obtain ⟨a, rfl, _⟩ := rT.dictI
            have hbd : bdOf bd0 lin r σ a := .inr ⟨i, _, hi, hr, f1⟩
            have kp : ∀ {o : HO}, Keep (bdOf bd0 lin r σ) H2 (L2.upd H2 a o) := fun {o} b u nb e => by
              have : b ≠ a := fun z => nb (z ▸ hbd)
              unfold L2.upd
              rw [if_neg this]; exact e
            have gr : ∀ b, bdOf bd0 lin r σ b → bdOf bd0 lin r σ b ∨ H2 b = none := fun b z => .inl z
            have nf : ∀ o' u, H2 a ≠ some (.frz o' u) := fun o' u z => by
              obtain ⟨a', e, hh⟩ := rT.dictI
              cases e
              rcases hh with ⟨_, h1, _⟩ | ⟨_, _, h1, _⟩
              · rw [h1] at z; cases z
              · rw [h1] at z; cases z
            cases kd with
            | str z =>
              have ht : (kvs.all fun kv => isStrD kv.1) = true := g1.1
              obtain ⟨ks, h1, h2, h3⟩ := viewK rT ht
              obtain ⟨rfl, oz⟩ := ry.t.strI
              have hl : ks.length < sizeLine := by rw [h2.length]; exact g1.2
              refine ⟨_, put_str (by omega), a, z, ks, rfl, rfl, h1, hl, q σ _ (ok2.upd hi hr f1 nf (.dK upd_self ?_ (RepK.go kp gr _ _ (RepK.put oz rv2 h2))))⟩
              have := length_putK ks (.inr z) v
              omega
            | tuple zs =>
              have hfit := fitsN g1.1
              obtain ⟨b, k, rfl, kn⟩ := fitsKN g1.1 ry.t
              refine ⟨_, put_tup hu, _, a, b, _, k, kvs, rfl, rfl, kn, hfit.2.2, rT, g1.2, fun xs u ep rn ru hsys nd => ?_⟩
              have hrn := RepN.put kn.key hfit.1 rfl kn.rep ru rv2 rn
              refine q σ _ (ok2.upd hi hr f1 nf (.dN upd_self ?_ hsys (fun z => ?_) nd (RepN.go kp gr _ _ hrn)))
              · rw [hrn.length]
                have := dput_len (ds := kvs) (k := .tuple zs) (v := d)
                have := g1.2
                show _ ≤ LIM
                omega
              · have hl := hrn.length
                rw [z] at hl
                exact dput_ne (List.length_eq_zero_iff.mp hl.symm)
            | _ => cases g1.1
        | list xs => exact q.elim
        | _ => exact q.elim
end
end BT
set_option Elab.async false
set_option linter.all false
set_option maxRecDepth 100000
set_option maxHeartbeats 8000000
/-! BTFr: more that makes new objects; extend, pop. -/
namespace BT
open PySem PySem.Spec PyProof.Rows L2
section
variable {X : Cx} {W : WishX} {lin : Lc}
/-- {} -/
theorem f_dnew {pos : Pos} : PE X (.Dict [] [] pos) (EF X W lin fun _ => .ok (.dict [])) := by
  refine pe_imp pe_dnewK fun σ H Q h => ?_
  obtain ⟨bd, r, hb, he, q⟩ := h
  exact fun p hp => q H (Same.refl _) p _ hp (.dK upd_same (Nat.zero_le _) .nil)
/-- a + b, lists -/
theorem f_add {a b : Expr} {pos : Pos} {b1 b2 : Bool} {fa fb : En → R D} (ha : PE X a (ER X W lin b1 fa)) (hb : PE X b (ER X W lin b2 fb)) :
    PE X (.BinOp a .Add b pos) (EF X W lin fun r => (fa r).bind fun x => (fb r).bind fun y => match x, y with | .list xs, .list ys => .gd (decide (xs.length + ys.length ≤ LIM)) (.ok (.list (xs ++ ys))) | _, _ => .bad) := by
  refine pe_imp (pe_op any_op ha hb) fun σ H Q h => ?_
  obtain ⟨bd, r, hbd, he, q⟩ := h
  refine ⟨bd, r, hbd, he, ?_⟩
  cases e1 : fa r with
  | bad => simp only [e1, R.bind_bad] at q
  | exc c => simp only [e1, R.bind_exc] at q; exact q
  | ok dx =>
    simp only [e1, R.bind_ok] at q
    intro vx H1 s1 rx
    refine ⟨bd, r, hbd.same s1, he.same s1, ?_⟩
    cases e2 : fb r with
    | bad => simp only [e2, R.bind_bad] at q
    | exc c => simp only [e2, R.bind_exc] at q; exact fun H' s => q H' (s1.trans s)
    | ok dy =>
      simp only [e2, R.bind_ok] at q
      intro vy H2 s2 ry
      cases dx with
      | list xs =>
        cases dy with
        | list ys =>
          simp only at q
          by_cases hl : xs.length + ys.length ≤ LIM
          · rw [decide_eq_true hl] at q
            simp only [R.gd, if_true] at q
            obtain ⟨a1, us, rfl, ra, la, ta⟩ := (rx.t.same s2).listI
            obtain ⟨a2, ws, rfl, rb, lb, tb⟩ := ry.t.listI
            have hz : us.length + ws.length ≤ sizeLine := by rw [ta.length, tb.length]; exact hl
            exact any_of op_cat ⟨a1, a2, us, ws, rfl, rfl, ra, rb, hz, fun p hp => q H2 (s1.trans s2) p _ hp (.lst upd_same (by rw [List.length_append]; exact hz) (RepL.go (Keep.of (same_upd hp)) (fun b z => z.imp id fun e => by rw [e]; exact hp) _ _ (ta.append tb)))⟩
          · rw [decide_eq_false hl] at q
            exact q.elim
        | _ => exact q.elim
      | _ => exact q.elim
end
end BT
set_option Elab.async false
set_option linter.all false
set_option maxRecDepth 100000
set_option maxHeartbeats 8000000
/-! BTFr2: {k: v}; list(x) anew; y = x, moved; extend, pop. -/
namespace BT
open PySem PySem.Spec PyProof.Rows L2
section
variable {X : Cx} {W : WishX} {lin : Lc}
/-- without p -/
def lessH (H : Hp) (p : Addr) : Hp := fun b => if b = p then none else H b
theorem upd_less {H : Hp} {p : Addr} {o : HO} : upd (lessH H p) p o = upd H p o := by
  funext b
  unfold L2.upd lessH
  by_cases h : b = p
  · rw [if_pos h, if_pos h]
  · rw [if_neg h, if_neg h, if_neg h]
/-- {k: v}, k a tuple -/
theorem f_disp {ke ve : Expr} {pos : Pos} {b1 : Bool} {fk fv : En → R D} (hu : X.A.units + 64 < cLine) (hk : PE X ke (ER X W lin b1 fk)) (hv : PE X ve (ER X W lin false fv)) :
    PE X (.Dict [some ke] [ve] pos) (EF X W lin fun r => (fk r).bind fun x => (fv r).bind fun y => .gd (isTupD x && keyFits [] x) (.ok (.dict [(x, y)]))) := by
  refine ⟨fun pins s σ H Q I h => ?_⟩
  obtain ⟨bd, r, hb, hen, q⟩ := h
  have hn := I.hok.fresh (Nat.le_refl s.heap.objs.size)
  have I1 := I.laid (a := s.heap.objs.size) (o := .dK []) (h' := s.heap.push { cls := .type "dict", data := .dict #[] }) (t' := s.toks) (fun _ _ z => Heap.get?_push_of_some _ z) (Nat.le_refl _) (dk_empty s.heap I.big)
  generalize hp : s.heap.objs.size = p at hn I1
  let bd' : Addr → Prop := fun a => bd a ∨ a = p
  have gr : Grow H bd bd' := fun a z => z.imp id fun e => by rw [e]; exact hn
  have sm := same_upd (o := .dK []) hn
  have hb1 : BadIn bd' (upd H p (.dK [])) := fun a z => by
    rcases z with z | z
    · exact hb.same sm a z
    · rw [z, upd_same]; exact fun z => nomatch z
  have hen1 : EnvOk X.prog X.w bd' lin r σ (upd H p (.dK [])) := hen.go sm gr
  have hroom : (nestedKind X.prog X.w).room X.A := by
    show X.A.units + 8 < cLine
    omega
  rw [arm_eval_Dict, show (evalEachOpt [some ke] X.env).zip ((evalEach [ve] X.env).map fun v => do let x ← v; standAt pos; pure x) = (pairTrees [some ke] [ve] X.env pos).map fun z => (some z.1, z.2) from rfl, dictDisplay_pairs (pairTrees [some ke] [ve] X.env pos) (by simp [pairTrees]) (by simp [pairTrees])]
  refine wpAny_bind (wpAny_standAt (wpAny_bind (wpAny_subDictH (knd := nestedKind X.prog X.w) (Q := fun d s2 => wpAny (model X.prog X.w) X.A (pure (Value.ref d)) (EP X pins σ Q) X.xe s2) hroom (by simp [pairTrees]) ?_)))
  rw [hp]
  have pk : tPairs [(ER X W lin b1 fk, ER X W lin false fv)] σ (upd H p (.dK [])) (fun ps H2 => ∃ vx vy dx dy, ps = [(vx, vy)] ∧ fk r = .ok dx ∧ fv r = .ok dy ∧ Same (upd H p (.dK [])) H2 ∧ RepT X.prog X.w H2 bd' vx dx ∧ Rep X.prog X.w H2 bd' vy dy) := by
    refine ⟨bd', r, hb1, hen1, ?_⟩
    cases e1 : fk r with
    | bad => simp only [e1, R.bind_bad] at q
    | exc c => simp only [e1, R.bind_exc] at q; exact fun H' s' => q H' (sm.trans s')
    | ok dx =>
      simp only [e1, R.bind_ok] at q
      intro vx H1 s1 rx
      refine ⟨bd', r, hb1.same s1, hen1.same s1, ?_⟩
      cases e2 : fv r with
      | bad => simp only [e2, R.bind_bad] at q
      | exc c => simp only [e2, R.bind_exc] at q; exact fun H' s' => q H' ((sm.trans s1).trans s')
      | ok dy =>
        intro vy H2 s2 ry
        exact ⟨vx, vy, dx, dy, rfl, rfl, rfl, s1.trans s2, rx.t.same s2, ry⟩
  refine thn ((pps_cons hk hv pps_nil).run pins _ σ _ _ I1 pk) fun ws s2 ⟨ps, H2, I2, rel, vx, vy, dx, dy, eps, e1, e2, s12, rx, ry⟩ => ?_
  simp only [e1, e2, R.bind_ok] at q
  subst eps
  cases eg : (isTupD dx && keyFits [] dx) with
  | false => rw [eg] at q; exact q.elim
  | true =>
    rw [eg] at q
    rw [Bool.and_eq_true] at eg
    have q : ∀ H1, Same H H1 → NewAt X H1 bd (.dict [(dx, dy)]) Q := q
    cases dx with
    | tuple zs =>
      obtain ⟨b, kk, rfl, kn⟩ := fitsKN eg.2 rx
      have hfit := fitsN eg.2
      obtain ⟨uk, uv, ews, ru, rv⟩ : ∃ uk uv, ws = [(uk, uv)] ∧ L2.RelV (.ref b) uk ∧ L2.RelV vy uv := by
        cases rel with
        | cons r1 rel => cases rel; exact ⟨_, _, rfl, r1.1, r1.2⟩
      subst ews
      have ru : uk = Value.ref b := ru
      subst ru
      have e0 : H2 p = some (.dK []) := s12 _ _ upd_same
      obtain ⟨dd, hsys⟩ := empty_dN I2 e0
      refine ⟨[(kk, b, uv)], ⟨rfl, rfl, kn.is I2, trivial⟩, dd, fun h2 tk hd2 hs2 => wpAny_pure ?_⟩
      obtain ⟨o, es, ep, g1, g2, g3, g4, g5, g6⟩ := hd2
      have I3 := d_write (t' := tk) I2 (by rw [e0]; exact True.intro) hs2 ⟨o, g1⟩ (ob := BT.dN X.prog X.w p ep (storedAllH [] [(kk, b, uv)])) ⟨⟨o, es, g1, g2, g3, g4⟩, ⟨o, g1⟩, fun h1 h2 ⟨o', es', z1, z2, z3, z4⟩ kp => ⟨o', es', kp _ z1, z2, z3, z4⟩⟩
      refine ⟨.ref p, _, I3, rfl, ?_⟩
      have hst : storedAllH [] [(kk, b, uv)] = [(kk, b, uv)] := rfl
      rw [hst] at g6 ⊢
      rw [← upd_less]
      have kp : Keep bd' H2 (upd H2 p (BT.dN X.prog X.w p ep [(kk, b, uv)])) := fun a u nb e => by
        rw [upd_ne (fun z => nb (.inr z))]; exact e
      refine q (lessH H2 p) (fun a o e => ?_) p _ (by unfold lessH; rw [if_pos rfl]) ?_
      · have hne : a ≠ p := fun z => by rw [z, hn] at e; cases e
        unfold lessH
        rw [if_neg hne]
        exact s12 _ _ (sm _ _ e)
      · rw [upd_less]
        exact .dN upd_same (by show 1 ≤ sizeLine; decide) hsys (fun z => nomatch z) g6 (.cons kn.key hfit.1 rfl (Rep.go kp (fun _ z => .inl z) _ _ kn.rep) rv (Rep.go kp (fun _ z => .inl z) _ _ ry) .nil)
    | _ => simp [isTupD] at eg
/-- a new object, taken as any -/
theorem er_ef {e : Expr} {f : En → R D} (h : PE X e (EF X W lin f)) : PE X e (ER X W lin false f) := by
  refine pe_imp h fun σ H Q h => ?_
  obtain ⟨bd, r, hb, hen, q⟩ := h
  refine ⟨bd, r, hb, hen, ?_⟩
  cases e1 : f r with
  | bad => simp only [e1] at q
  | exc c => simp only [e1] at q; exact q
  | ok d =>
    simp only [e1] at q
    exact fun H1 s1 p o hp hr => q _ _ (s1.trans (same_upd hp)) (new_rep (hb.same s1) hp hr)
/-- list(x), new -/
theorem f_list {e : Expr} {p pos : Pos} {b : Bool} {f : En → R D} (hc : X.calm = true) (hg : Gl X "list") (hm : X.mg "list" = none) (he : PE X e (ER X W lin b f)) (hst : isStar e = false) :
    PE X (.Call (.Name "list" p) [e] [] pos) (EF X W lin fun r => (f r).bind fun d => bltF .list [d]) := by
  refine pe_imp (pe_callTy (T := "list") any_call hg hm (by decide +kernel) (pa_cons he pa_nil (star1 hst)) (by decide) (by decide) (star1 hst) rfl) fun σ H Q h => ?_
  obtain ⟨bd, r, hb, hen, q⟩ := h
  refine ⟨bd, r, hb, hen, ?_⟩
  cases e1 : f r with
  | bad => simp only [e1, R.bind_bad] at q
  | exc c => simp only [e1, R.bind_exc] at q; exact q
  | ok d =>
    simp only [e1, R.bind_ok] at q
    intro v H1 s1 rv
    have nw : ∀ {us : List V} {xs : List D}, us.length ≤ sizeLine → RepL X.prog X.w H1 bd us xs → NewAt X H1 bd (.list xs) Q → ∀ p, H1 p = none → Q (.ref p) (upd H1 p (.lst us)) := fun {us xs} hl t nq p hp => nq p _ hp (.lst upd_same hl (RepL.go (Keep.of (same_upd hp)) (fun a z => z.imp id fun e => by rw [e]; exact hp) _ _ t))
    cases d with
    | list xs =>
      obtain ⟨a, us, rfl, ra, la, ta⟩ := rv.t.listI
      exact call_of call_list_of ⟨a, us, rfl, .inl (SqL.of ra), nw la ta (q H1 s1)⟩
    | tuple xs =>
      obtain ⟨a, us, rfl, na, ra, la, ta⟩ := rv.t.tupI
      exact call_of call_list_of ⟨a, us, rfl, .inr ra.sq, nw la ta (q H1 s1)⟩
    | dict kvs =>
      cases eg : ((kvs.all fun kv => isStrD kv.1) || (kvs.all fun kv => isTupD kv.1)) with
      | false =>
        have : bltF .list [.dict kvs] = .bad := by show R.gd _ _ = _; rw [eg]; rfl
        rw [this] at q; exact q.elim
      | true =>
        have e2 : bltF .list [.dict kvs] = .ok (.list (keysOf kvs)) := by show R.gd _ _ = _; rw [eg]; rfl
        rw [e2] at q
        obtain ⟨a, rfl, _⟩ := rv.t.dictI
        rcases Bool.or_eq_true_iff.mp eg with eg | eg
        · obtain ⟨ks, h1, h2, h3⟩ := viewK rv.t eg
          exact call_of (call_listD hc) ⟨a, ks, rfl, .inl h1, nw (by simpa using h3) h2.keys (q H1 s1)⟩
        · exact call_of (call_listN hc) ⟨bd, a, kvs, rfl, rv.t, eg, fun zs rn hz => nw (by simpa using hz) rn.keys (q H1 s1)⟩
    | _ => exact q.elim
end
section
variable {X : Cx} {W : WishX} {lin : Lc} {P : Program} {w : World} {H0 H H' : Hp} {bd0 : Addr → Prop} {r : En} {σ : L2.St}
theorem drop_get {r : En} {i k : Nat} {e : D} (h : (BT.drop r i)[k]? = some (some e)) : k ≠ i ∧ r[k]? = some (some e) := by
  unfold BT.drop at h
  by_cases hk : k = i
  · subst hk
    by_cases hl : k < r.length
    · rw [List.getElem?_set_self hl] at h; cases h
    · rw [List.getElem?_eq_none (by simpa using hl)] at h; cases h
  · rw [List.getElem?_set_ne (Ne.symm hk)] at h
    exact ⟨hk, h⟩
/-- what a changing slot holds goes over to a plain one -/
theorem StOk.move {i j : Nat} {v : V} {d : D} (h : StOk P w H0 bd0 lin r σ H) (hi : i ∈ lin.lin) (hr : r[i]? = some (some d)) (hv : σ[i]? = some (some v)) (hj : j < lin.n) (hjn : j ∉ lin.lin) (hs : ∀ k ns, lin.scr = some (k, ns) → k ≠ j) :
    StOk P w H0 bd0 lin (BT.put (BT.drop r i) j d) (σ.set j (some v)) H := by
  obtain ⟨a, ha, h0⟩ := h.own i d hi hr
  rw [hv] at ha; cases ha
  have hij : i ≠ j := fun z => hjn (z ▸ hi)
  have sub : ∀ b, bdOf bd0 lin (BT.put (BT.drop r i) j d) (σ.set j (some (.ref a))) b → bdOf bd0 lin r σ b ∧ b ≠ a := fun b z => by
    rcases z with z | ⟨k, e, hk, h1, h2⟩
    · exact ⟨.inl z, fun q => h.bad0 b z (by rw [q]; exact h0)⟩
    · have nk : k ≠ j := fun q => hjn (q ▸ hk)
      rcases put_get h1 with ⟨q, _⟩ | ⟨_, h1⟩
      · exact (nk q).elim
      obtain ⟨ki, h1⟩ := drop_get h1
      rw [lin_get nk] at h2
      refine ⟨.inr ⟨k, e, hk, h1, h2⟩, fun q => ?_⟩
      subst q
      exact ki (h.uniq k i e d b hk hi h1 hr h2 hv)
  have gr : ∀ b, bdOf bd0 lin (BT.put (BT.drop r i) j d) (σ.set j (some (.ref a))) b → bdOf bd0 lin r σ b ∨ H b = none := fun b z => .inl (sub b z).1
  have kp : Keep (bdOf bd0 lin r σ) H H := fun _ _ _ e => e
  have nb : ¬ bdOf bd0 lin (BT.put (BT.drop r i) j d) (σ.set j (some (.ref a))) a := fun z => (sub a z).2 rfl
  obtain ⟨v1, g1, g2⟩ := h.env.vals i d hr
  rw [hv] at g1; cases g1
  rw [decide_eq_true hi] at g2
  have rj : Rep P w H (bdOf bd0 lin (BT.put (BT.drop r i) j d) (σ.set j (some (.ref a)))) (.ref a) d := by
    cases (show RepT P w H (bdOf bd0 lin r σ) (.ref a) d from g2) with
    | of q => exact Rep.go kp gr _ _ q
    | lst ra la ta => exact .lst nb ra la (RepL.go kp gr _ _ ta)
    | dK ra la ta => exact .dK nb ra la (RepK.go kp gr _ _ ta)
    | dN ra la z ne nd ta => exact .dN nb ra la z ne nd (RepN.go kp gr _ _ ta)
  refine ⟨h.same, h.bad0, ⟨fun k e he => ?_, fun k ns e => ?_⟩, fun k e hk he => ?_, fun k l e f b hk hl h1 h2 h3 h4 => ?_, by rw [List.length_set]; exact h.len⟩
  · rcases put_get he with ⟨rfl, rfl⟩ | ⟨hkj, he⟩
    · exact ⟨.ref a, List.getElem?_set_self (by rw [h.len]; exact hj), RepX.of rj⟩
    · obtain ⟨ki, he⟩ := drop_get he
      obtain ⟨v2, e1, r1⟩ := h.env.vals k e he
      refine ⟨v2, by rw [lin_get hkj]; exact e1, ?_⟩
      by_cases hk : k ∈ lin.lin
      · rw [decide_eq_true hk] at r1 ⊢
        cases (show RepT P w H (bdOf bd0 lin r σ) v2 e from r1) with
        | of q => exact RepT.of (Rep.go kp gr _ _ q)
        | lst ra la ta => exact RepT.lst ra la (RepL.go kp gr _ _ ta)
        | dK ra la ta => exact RepT.dK ra la (RepK.go kp gr _ _ ta)
        | dN ra la z ne nd ta => exact RepT.dN ra la z ne nd (RepN.go kp gr _ _ ta)
      · rw [decide_eq_false hk] at r1 ⊢
        exact Rep.go kp gr _ _ r1
  · obtain ⟨b, o, e1, z⟩ := h.env.scr k ns e
    exact ⟨b, o, by rw [lin_get (hs k ns e)]; exact e1, z⟩
  · have nk : k ≠ j := fun q => hjn (q ▸ hk)
    rcases put_get he with ⟨q, _⟩ | ⟨_, he⟩
    · exact (nk q).elim
    rw [lin_get nk]
    exact h.own k e hk (drop_get he).2
  · have nk : k ≠ j := fun q => hjn (q ▸ hk)
    have nl : l ≠ j := fun q => hjn (q ▸ hl)
    rcases put_get h1 with ⟨q, _⟩ | ⟨_, h1⟩
    · exact (nk q).elim
    rcases put_get h2 with ⟨q, _⟩ | ⟨_, h2⟩
    · exact (nl q).elim
    rw [lin_get nk] at h3
    rw [lin_get nl] at h4
    exact h.uniq k l e f b hk hl (drop_get h1).2 (drop_get h2).2 h3 h4
theorem st_mv {i j : Nat} {x y : Str} {px py pos : Pos} (hN : X.N.Nodup) (hi : i ∈ lin.lin) (hNi : X.N[i]? = some x) (hv : Vis X.env.scope x) (hd : (x == ("__debug__" : Str)) = false) (hcd : (x == ("__classdict__" : Str)) = false)
    (hNj : X.N[j]? = some y) (hln : j < lin.n) (hy : Loc X.env.scope y) (hn : j ∉ lin.lin) (hs : ∀ k ns, lin.scr = some (k, ns) → k ≠ j) (hf : X.fn y = true ∨ X.env.scope.names.lookup y = some .local) :
    PS X (.Assign [.Name y py] (.Name x px) pos) (SRd X W lin fun r => (get r i).toF r fun d => .nx (BT.put (BT.drop r i) j d)) := by
  refine ps_imp (ps_set hN hNj hy (pe_var (pos := px) hNi hv hd hcd) (sw_no rfl) hf) fun D σ H h => ?_
  obtain ⟨H0, bd0, r, ok, q⟩ := h
  cases eg : get r i with
  | bad => simp only [eg, R.toF_bad] at q
  | exc c => exact (get_noexc eg).elim
  | ok d =>
    simp only [eg, R.toF_ok] at q
    obtain ⟨v, e1, _⟩ := ok.env.vals i d (get_ok eg)
    exact ⟨v, e1, q _ H (ok.move hi (get_ok eg) e1 hln hn hs)⟩
/-- x.extend(e) -/
theorem st_ext {i : Nat} {x : Str} {e : Expr} {p apos cpos pos : Pos} {f : En → R D} (hi : i ∈ lin.lin) (hN : X.N[i]? = some x) (hv : Vis X.env.scope x) (hd : (x == ("__debug__" : Str)) = false) (hcd : (x == ("__classdict__" : Str)) = false) (he : PE X e (ER X W lin false f))
    (hst : isStar e = false) (hline : (apos.endLine == cpos.line) = true) :
    PS X (.Expr (.Call (.Attribute (.Name x p) "extend" apos) [e] [] cpos) pos) (SRd X W lin fun r => (get r i).toF r fun x => match x with
      | .list xs => (f r).toF r fun d => match d with
        | .list ys => if xs.length + ys.length ≤ LIM then .nx (BT.put r i (.list (xs ++ ys))) else .bad
        | _ => .bad
      | _ => .bad) := by
  have hA := pa_cons he pa_nil (star1 (env := X.env) hst)
  refine ps_imp (ps_expr (pe_mth (pe_var (pos := p) hN hv hd hcd) hA rfl (by rw [starFew (by rw [List.any_cons, hst]; rfl)]; rfl) hline (star1 hst) rfl) rfl) fun D σ H h => ?_
  obtain ⟨H0, bd0, r, ok, q⟩ := h
  cases eg : get r i with
  | bad => simp only [eg, R.toF_bad] at q
  | exc c => exact (get_noexc eg).elim
  | ok dx =>
    simp only [eg, R.toF_ok] at q
    cases dx with
    | list xs =>
      simp only at q
      obtain ⟨a, vs, e1, ra, la, ta, hr⟩ := lin_list ok hi eg
      refine ⟨.ref a, e1, "list", "list.extend", mk_extend, tyL ra, _, r, ok.bad, ok.env, ?_⟩
      cases ef : f r with
      | bad => simp only [ef, R.toF_bad] at q
      | exc c => simp only [ef, R.toF_exc] at q; exact fun H' s => q σ H' (ok.kept s)
      | ok d =>
        simp only [ef, R.toF_ok] at q
        cases d with
        | list ys =>
          simp only at q
          by_cases hl : xs.length + ys.length ≤ LIM
          · rw [if_pos hl] at q
            intro v H1 s1 rv
            cases (show Rep X.prog X.w H1 (bdOf bd0 lin r σ) v (.list ys) from rv) with
            | lst nb rb lb tb =>
              rename_i b us
              have hl2 : vs.length + us.length ≤ sizeLine := by rw [ta.length, tb.length]; exact hl
              refine ⟨_, mt_extend, a, b, vs, us, rfl, rfl, s1 _ _ ra, rb, hl2, ?_⟩
              refine q σ _ ((ok.kept s1).upd hi hr e1 (fun o' u z => by rw [s1 _ _ ra] at z; cases z) (.lst upd_self (by rw [List.length_append]; exact hl2) ?_))
              have hbd : bdOf bd0 lin r σ a := .inr ⟨i, _, hi, hr, e1⟩
              have kp : Keep (bdOf bd0 lin r σ) H1 (L2.upd H1 a (.lst (vs ++ us))) := fun c u nb e => by
                have : c ≠ a := fun z => nb (z ▸ hbd)
                unfold L2.upd
                rw [if_neg this]; exact e
              exact (RepL.go kp (fun c z => .inl z) _ _ (ta.same s1)).append (RepL.go kp (fun c z => .inl z) _ _ tb)
          · rw [if_neg hl] at q; exact q.elim
        | _ => exact q.elim
    | _ => exact q.elim
theorem put_comm {r : En} {i j : Nat} {a b : D} (h : i ≠ j) : BT.put (BT.put r i a) j b = BT.put (BT.put r j b) i a := by
  unfold BT.put
  rw [List.set_comm _ _ h]
/-- y = x.pop(), y = x.pop(0): what stands then -/
theorem StOk.popped {i j : Nat} {a : Addr} {v : V} {d : D} {vs us : List V} {xs ys : List D} (ok : StOk P w H0 bd0 lin r σ H) (hi : i ∈ lin.lin) (hr : r[i]? = some (some (.list xs))) (e1 : σ[i]? = some (some (.ref a))) (ra : H a = some (.lst vs)) (hl : us.length ≤ sizeLine) (t : RepL P w H (bdOf bd0 lin r σ) us ys) (rv : Rep P w H (bdOf bd0 lin r σ) v d)
    (hj : j < lin.n) (hjn : j ∉ lin.lin) (hs : ∀ k ns, lin.scr = some (k, ns) → k ≠ j) : StOk P w H0 bd0 lin (BT.put (BT.put r i (.list ys)) j d) (σ.set j (some v)) (L2.upd H a (.lst us)) := by
  have hbd : bdOf bd0 lin r σ a := .inr ⟨i, _, hi, hr, e1⟩
  have kp : Keep (bdOf bd0 lin r σ) H (L2.upd H a (.lst us)) := fun c u nb e => by
    have : c ≠ a := fun z => nb (z ▸ hbd)
    unfold L2.upd
    rw [if_neg this]; exact e
  have o1 : StOk P w H0 bd0 lin (BT.put r i (.list ys)) σ (L2.upd H a (.lst us)) := ok.upd hi hr e1 (fun o' u z => by rw [ra] at z; cases z) (.lst upd_self hl (RepL.go kp (fun c z => .inl z) _ _ t))
  refine o1.put hj hjn hs ?_
  rw [bdOf_upd hr]
  exact Rep.go kp (fun c z => .inl z) _ _ rv
theorem st_pop {i j : Nat} {x y : Str} {p py apos cpos pos : Pos} (hNd : X.N.Nodup) (hi : i ∈ lin.lin) (hN : X.N[i]? = some x) (hv : Vis X.env.scope x) (hd : (x == ("__debug__" : Str)) = false) (hcd : (x == ("__classdict__" : Str)) = false) (hline : (apos.endLine == cpos.line) = true)
    (hNj : X.N[j]? = some y) (hln : j < lin.n) (hy : Loc X.env.scope y) (hn : j ∉ lin.lin) (hs : ∀ k ns, lin.scr = some (k, ns) → k ≠ j) (hf : X.fn y = true ∨ X.env.scope.names.lookup y = some .local) :
    PS X (.Assign [.Name y py] (.Call (.Attribute (.Name x p) "pop" apos) [] [] cpos) pos) (SRd X W lin fun r => (get r i).toF r fun x => match x with
      | .list xs => match xs.getLast? with
        | some z => .nx (BT.put (BT.put r i (.list xs.dropLast)) j z)
        | none => .bad
      | _ => .bad) := by
  refine ps_imp (ps_set hNd hNj hy (pe_mth0 (pe_var (pos := p) hN hv hd hcd) rfl hline) (sw_no rfl) hf) fun D σ H h => ?_
  obtain ⟨H0, bd0, r, ok, q⟩ := h
  cases eg : get r i with
  | bad => simp only [eg, R.toF_bad] at q
  | exc c => exact (get_noexc eg).elim
  | ok dx =>
    simp only [eg, R.toF_ok] at q
    cases dx with
    | list xs =>
      simp only at q
      obtain ⟨a, vs, e1, ra, la, ta, hr⟩ := lin_list ok hi eg
      cases hlast : xs.getLast? with
      | none => simp only [hlast] at q
      | some z =>
        simp only [hlast] at q
        have hxl : xs[xs.length - 1]? = some z := by rw [← List.getLast?_eq_getElem?]; exact hlast
        obtain ⟨v, hv1, rv⟩ := ta.get' hxl
        rw [← ta.length] at hv1
        refine ⟨.ref a, e1, "list", "list.pop", mk_pop, tyL ra, _, mt_pop, a, vs, v, rfl, rfl, ra, hv1, ?_⟩
        exact q _ _ (ok.popped hi hr e1 ra (by rw [List.length_dropLast]; omega) ta.dropLast rv hln hn hs)
    | _ => exact q.elim
theorem st_pop0 {i j : Nat} {x y : Str} {p py p0 apos cpos pos : Pos} {k0 : Nat} (hNd : X.N.Nodup) (hi : i ∈ lin.lin) (hN : X.N[i]? = some x) (hv : Vis X.env.scope x) (hd : (x == ("__debug__" : Str)) = false) (hcd : (x == ("__classdict__" : Str)) = false) (hline : (apos.endLine == cpos.line) = true)
    (hNj : X.N[j]? = some y) (hln : j < lin.n) (hy : Loc X.env.scope y) (hn : j ∉ lin.lin) (hs : ∀ k ns, lin.scr = some (k, ns) → k ≠ j) (hf : X.fn y = true ∨ X.env.scope.names.lookup y = some .local) :
    PS X (.Assign [.Name y py] (.Call (.Attribute (.Name x p) "pop" apos) [.Constant (.int 0) k0 p0] [] cpos) pos) (SRd X W lin fun r => (get r i).toF r fun x => match x with
      | .list (z :: zs) => .nx (BT.put (BT.put r i (.list zs)) j z)
      | _ => .bad) := by
  refine ps_imp (ps_set hNd hNj hy (pe_mth (pe_var (pos := p) hN hv hd hcd) (pa_cons pe_int pa_nil rfl) rfl rfl hline rfl rfl) (sw_no rfl) hf) fun D σ H h => ?_
  obtain ⟨H0, bd0, r, ok, q⟩ := h
  cases eg : get r i with
  | bad => simp only [eg, R.toF_bad] at q
  | exc c => exact (get_noexc eg).elim
  | ok dx =>
    simp only [eg, R.toF_ok] at q
    cases dx with
    | list xs =>
      cases xs with
      | nil => exact q.elim
      | cons z zs =>
        simp only at q
        obtain ⟨a, vs, e1, ra, la, ta, hr⟩ := lin_list ok hi eg
        cases ta with
        | cons rz tz =>
          rename_i v us
          refine ⟨.ref a, e1, "list", "list.pop", mk_pop, tyL ra, _, mt_popAt, a, v :: us, 0, 0, v, rfl, rfl, ra, by decide, by decide, ?_, rfl, ?_⟩
          · unfold seqIndex?; simp
          · exact q _ _ (ok.popped hi hr e1 ra (by simp at la; show us.length ≤ _; omega) tz rz hln hn hs)
    | _ => exact q.elim
end
end BT
set_option Elab.async false
set_option linter.all false
set_option maxRecDepth 100000
set_option maxHeartbeats 8000000
/-! BTTry: raise of an own error; try .. except X as e with a plain suite. -/
namespace BT
open PySem PySem.Spec PyProof.Rows L2
/-- what is known of an error's class -/
structure ExcK (K : PySem.W.Frag) (mg : Str → Option Value) (A : Addr) (row : List (Str × Bool)) : Prop where
  inn : PySem.W.excIn K A He.veBase "ValueError.__new__" = true
  keep : PySem.W.keepIn K (.ref A) = true
  sub : PySem.W.subIn K (.ref A) (.type "BaseException") = some true
  typ : PySem.W.typeIn K (.ref A) = some (.type "type")
  cls : ExcC K A
  row : ∀ y b, row.lookup y = some b → ∃ cv, ((mg y = some cv ∧ ∃ B, cv = .ref B) ∨ (mg y = none ∧ bootBuiltins y = some cv ∧ ∃ T, cv = .type T)) ∧ PySem.W.kitOne K (.ref A) cv = some b ∧ PySem.W.exmOne K (.ref A) cv = some b
def ExOk (K : PySem.W.Frag) (mg : Str → Option Value) (exs : Exs) : Prop := ∀ x row, exs.lookup x = some row → ∃ A, mg x = some (.ref A) ∧ ExcK K mg A row
section
variable {X : Cx} {W : WishX} {lin : Lc}
theorem st_raise {x m : Str} {j : Nat} {p p2 pos pos2 : Pos} {A : Addr} {row : List (Str × Bool)} (hc : X.calm = true) (tk : Takes X (wx X.mg W)) (hm : X.mg x = some (.ref A)) (E : ExcK X.K X.mg A row) (hg : Gl X x) (hdb : (x == ("__debug__" : Str)) = false) :
    PS X (.Raise (some (.Call (.Name x p) [.Constant (.str m) j p2] [] pos)) none pos2) (SRd X W lin fun r => .exc x r) := by
  refine ps_imp (ps_raise hc tk (pmk_own PySem.F.excBase_ValueError E.inn hm E.keep (raises_own E.sub E.typ) hg hdb)) fun Dn σ H h => ?_
  obtain ⟨H0, bd0, r, ok, q⟩ := h
  exact ⟨rfl, x, hm, q σ H ok⟩
end
/-! ### the suite -/
mutual
def cX : Nat → CC → Str → Expr → Option M
  | 0, _, _, _ => none
  | n + 1, c, en, e => match e with
    | .Name x _ => if x = en || !nameOk x || !isVis c.sc x then none else (slotOf c.N x).bind fun i => if decide (i ∈ c.lin) then none else some (.var i)
    | .Constant .none _ _ => some .non
    | .Constant (.bool b) _ _ => some (.bl b)
    | .Constant (.str x) _ _ => if okSb x then some (.str x) else none
    | .Tuple es _ _ => if es.length ≤ 1000 then (cXs n c en es).map .tup else none
    | .UnaryOp .Not a _ => (cX n c en a).map .nt
    | .BoolOp .And es _ => cXand n c en es
    | .BoolOp .Or es _ => cXor n c en es
    | .IfExp t a b _ => if tOk n t then (cX n c en t).bind fun k => (cX n c en a).bind fun x => (cX n c en b).map fun y => .ife k x y else none
    | .Call (.Name f _) [.Name x _, .Name y _] [] _ => if f = "isinstance" && x = en && isGl c.sc y && nameOk y then some (.call "isinstance" [.str y]) else none
    | _ => none
def cXs : Nat → CC → Str → List Expr → Option (List M)
  | 0, _, _, _ => none
  | _ + 1, _, _, [] => some []
  | n + 1, c, en, e :: es => if isStar e then none else (cX n c en e).bind fun x => (cXs n c en es).map (x :: ·)
def cXand : Nat → CC → Str → List Expr → Option M
  | 0, _, _, _ => none
  | _ + 1, _, _, [] => none
  | n + 1, c, en, [e] => cX n c en e
  | n + 1, c, en, e :: es => (cX n c en e).bind fun x => (cXand n c en es).map fun y => .and x y
def cXor : Nat → CC → Str → List Expr → Option M
  | 0, _, _, _ => none
  | _ + 1, _, _, [] => none
  | n + 1, c, en, [e] => cX n c en e
  | n + 1, c, en, e :: es => (cX n c en e).bind fun x => (cXor n c en es).map fun y => .or x y
end
def cH (n : Nat) (c : CC) (en : Str) (i : Nat) : List Stmt → Option (List MS)
  | [] => some []
  | .Assign [.Name x _] e _ :: ss => (slotOf c.N x).bind fun j => if decide (c.sc.names.lookup x = some .local) && decide (j ∉ c.lin) && decide (j ≠ i) && !isLcE e then (cX n c en e).bind fun m => (cH n c en i ss).map fun ms => .set j m :: ms else none
  | [.Return (some e) _] => (cX n c en e).map fun m => [.ret m]
  | _ => none
abbrev NoW : WishX := fun _ _ _ => False
structure SuOk (Y : Cx) (c : CC) (lin : Lc) (i : Nat) (en : Str) (C : CallF) : Prop where
  nd : Y.N.Nodup
  hN : Y.N = c.N
  hsc : Y.env.scope = c.sc
  hlin : lin.lin = c.lin
  hn : lin.n = c.N.length
  scr : lin.scr = some (i, [])
  isx : ∀ y p p1 p2 pos, isGl c.sc y = true → nameOk y = true → PE Y (.Call (.Name "isinstance" p) [.Name en p1, .Name y p2] [] pos) (ER Y NoW lin false fun _ => C "isinstance" [.str y])
section
variable {Y : Cx} {c : CC} {lin : Lc} {i : Nat} {en : Str} {C : CallF}
theorem glS (hsc : Y.env.scope = c.sc) {x : Str} (e : isGl c.sc x = true) : Gl Y x := by
  show Y.env.scope.names.lookup x = _
  rw [hsc]
  unfold isGl at e
  split at e
  · assumption
  · cases e
theorem visS (hsc : Y.env.scope = c.sc) {x : Str} (e : isVis c.sc x = true) : Vis Y.env.scope x := by
  unfold Vis
  rw [hsc]
  unfold isVis at e
  split at e
  · rename_i q; exact .inl q
  · rename_i q; exact .inr (.inl q)
  · rename_i q; exact .inr (.inr q)
  · cases e
theorem ar_congr {es : List Expr} {W : WishX} {f g : En → R (List D)} (h : PA Y es (AR Y W lin f)) (e1 : ∀ r, g r = f r) : PA Y es (AR Y W lin g) := by
  have : g = f := funext e1
  rw [this]; exact h
structure XSnd (n : Nat) : Prop where
  e : ∀ {Y c lin i en C}, SuOk Y c lin i en C → ∀ e m, cX n c en e = some m → PE Y e (ER Y NoW lin false (ev C m))
  es : ∀ {Y c lin i en C}, SuOk Y c lin i en C → ∀ es ms, cXs n c en es = some ms → PA Y es (AR Y NoW lin (evs C ms)) ∧ ms.length = es.length
  and : ∀ {Y c lin i en C}, SuOk Y c lin i en C → ∀ es m pos, cXand n c en es = some m → PE Y (.BoolOp .And es pos) (ER Y NoW lin false (ev C m))
  or : ∀ {Y c lin i en C}, SuOk Y c lin i en C → ∀ es m pos, cXor n c en es = some m → PE Y (.BoolOp .Or es pos) (ER Y NoW lin false (ev C m))
  t : ∀ {Y c lin i en C}, SuOk Y c lin i en C → ∀ j e m, tOk j e = true → cX n c en e = some m → PT Y e (TR Y NoW lin fun r => (ev C m r).bind tst)
  andT : ∀ {Y c lin i en C}, SuOk Y c lin i en C → ∀ j es m pos, es.all (tOk j) = true → cXand n c en es = some m → PW Y (.BoolOp .And es pos) (TR Y NoW lin fun r => (ev C m r).bind tst)
  orT : ∀ {Y c lin i en C}, SuOk Y c lin i en C → ∀ j es m pos, es.all (tOk j) = true → cXor n c en es = some m → PW Y (.BoolOp .Or es pos) (TR Y NoW lin fun r => (ev C m r).bind tst)
theorem xe_step {n : Nat} (ih : XSnd n) (hx : SuOk Y c lin i en C) (e : Expr) (m : M) (h : cX (n + 1) c en e = some m) : PE Y e (ER Y NoW lin false (ev C m)) := by
  unfold cX at h
  split at h
  · rename_i x p
    split at h
    · cases h
    · rename_i h0
      rw [Bool.not_eq_true, Bool.or_eq_false_iff, Bool.or_eq_false_iff, Bool.not_eq_false', Bool.not_eq_false'] at h0
      obtain ⟨⟨h1, h2⟩, h3⟩ := h0
      obtain ⟨n1, n2, n3⟩ := nameOk_of h2
      rw [Option.bind_eq_some_iff] at h
      obtain ⟨j, e1, h⟩ := h
      split at h
      · cases h
      · rename_i h4
        rw [decide_eq_true_eq] at h4
        injection h with h; subst h
        have hl : j ∉ lin.lin := by rw [hx.hlin]; exact h4
        have := s_var (X := Y) (W := NoW) (lin := lin) (pos := p) (i := j) (x := x) (by rw [hx.hN]; exact slotOf_get e1) (visS hx.hsc h3) n1 n2
        rw [decide_eq_false hl] at this
        exact er_congr this fun r => by simp only [ev]
  · injection h with h; subst h; exact er_congr (s_const pe_non fun _ _ => .non) fun r => by simp only [ev]
  · injection h with h; subst h; exact er_congr (s_const pe_bl fun _ _ => .bl _) fun r => by simp only [ev]
  · rename_i x k p
    split at h
    · rename_i h0
      injection h with h; subst h
      exact er_congr (s_const pe_str fun _ _ => .str (okS_of h0)) fun r => by simp only [ev]
    · cases h
  · rename_i es k p
    split at h
    · rename_i h0
      rw [Option.map_eq_some_iff] at h
      obtain ⟨ms, h1, rfl⟩ := h
      obtain ⟨a1, a2⟩ := ih.es hx es ms h1
      exact er_congr (s_tup a1 (len_ok a2 h0)) fun r => by simp only [ev]
    · cases h
  · rename_i a p
    rw [Option.map_eq_some_iff] at h
    obtain ⟨x, h1, rfl⟩ := h
    exact er_congr (s_not (ih.e hx a x h1)) fun r => by simp only [ev]
  · exact ih.and hx _ m _ h
  · exact ih.or hx _ m _ h
  · split at h
    · rename_i ht
      simp only [Option.bind_eq_some_iff, Option.map_eq_some_iff] at h
      obtain ⟨q, h1, x, h2, y, h3, rfl⟩ := h
      exact er_congr (s_ife (ih.t hx n _ q ht h1) (ih.e hx _ x h2) (ih.e hx _ y h3)) fun r => by simp only [ev]
    · cases h
  · rename_i f p x p1 y p2 pos
    split at h
    · rename_i h0
      simp only [Bool.and_eq_true, decide_eq_true_eq] at h0
      obtain ⟨⟨⟨rfl, rfl⟩, h2⟩, h3⟩ := h0
      injection h with h; subst h
      exact er_congr (hx.isx y p p1 p2 pos h2 h3) fun r => by simp only [ev, evs, R.bind_ok]
    · cases h
  · cases h
theorem xt_step {n : Nat} (ih : XSnd n) (hx : SuOk Y c lin i en C) (j : Nat) (e : Expr) (m : M) (ht : tOk j e = true) (h : cX (n + 1) c en e = some m) : PT Y e (TR Y NoW lin fun r => (ev C m r).bind tst) := by
  have he := xe_step ih hx e m h
  cases j with
  | zero => cases ht
  | succ j =>
    cases e with
    | BoolOp op es pos =>
      have ht' : es.all (tOk j) = true := ht
      cases op with
      | And => simp only [cX] at h; exact (ih.andT hx j es m pos ht' h).pt
      | Or => simp only [cX] at h; exact (ih.orT hx j es m pos ht' h).pt
    | UnaryOp op a pos =>
      cases op with
      | Not =>
        have ht' : tOk j a = true := ht
        simp only [cX, Option.map_eq_some_iff] at h
        obtain ⟨x, h1, rfl⟩ := h
        refine pt_congr (t_not (ih.t hx j a x ht' h1)) fun r => ?_
        simp only [ev]
        cases ev C x r with
        | ok d => simp only [R.bind_ok]; cases tst d <;> rfl
        | exc c => rfl
        | bad => rfl
      | _ => exact t_truth he fun _ => rfl
    | IfExp a b d pos => cases ht
    | Compare a ops bs pos => simp only [cX] at h; cases h
    | _ => exact t_truth he fun _ => rfl
theorem xSnd : ∀ n, XSnd n
  | 0 => by constructor <;> intros <;> simp_all [cX, cXs, cXand, cXor]
  | n + 1 => by
    have ih := xSnd n
    refine ⟨fun hx e m h => xe_step ih hx e m h, fun hx es ms h => ?_, fun hx es m pos h => ?_, fun hx es m pos h => ?_, fun hx j e m ht h => xt_step ih hx j e m ht h, fun hx j es m pos ht h => ?_, fun hx j es m pos ht h => ?_⟩
    · cases es with
      | nil => simp only [cXs] at h; injection h with h; subst h; exact ⟨ar_congr a_nil fun r => by simp only [evs], rfl⟩
      | cons e es =>
        simp only [cXs] at h
        split at h
        · cases h
        · rename_i h0
          simp only [Option.bind_eq_some_iff, Option.map_eq_some_iff] at h
          obtain ⟨x, h1, xs, h2, rfl⟩ := h
          obtain ⟨a1, a2⟩ := ih.es hx es xs h2
          refine ⟨ar_congr (a_cons (ih.e hx e x h1) a1 (star1 (by simpa using h0))) fun r => by simp only [evs], by simp [a2]⟩
    · match es, h with
      | [], h => simp [cXand] at h
      | [e], h => simp only [cXand] at h; exact s_one (ih.e hx e m h)
      | e :: e2 :: es, h =>
        simp only [cXand, Option.bind_eq_some_iff, Option.map_eq_some_iff] at h
        obtain ⟨x, h1, y, h2, rfl⟩ := h
        exact er_congr (s_and (ih.e hx e x h1) (ih.and hx (e2 :: es) y pos h2)) fun r => by simp only [ev]
    · match es, h with
      | [], h => simp [cXor] at h
      | [e], h => simp only [cXor] at h; exact s_one (ih.e hx e m h)
      | e :: e2 :: es, h =>
        simp only [cXor, Option.bind_eq_some_iff, Option.map_eq_some_iff] at h
        obtain ⟨x, h1, y, h2, rfl⟩ := h
        exact er_congr (s_or (ih.e hx e x h1) (ih.or hx (e2 :: es) y pos h2)) fun r => by simp only [ev]
    · match es, h, ht with
      | [], h, _ => simp [cXand] at h
      | [e], h, ht => simp only [cXand] at h; exact t_and1 (ih.t hx j e m (by simpa using ht) h)
      | e :: e2 :: es, h, ht =>
        simp only [cXand, Option.bind_eq_some_iff, Option.map_eq_some_iff] at h
        obtain ⟨x, h1, y, h2, rfl⟩ := h
        rw [List.all_cons, Bool.and_eq_true] at ht
        exact pw_congr (t_and (ih.t hx j e x ht.1 h1) (ih.andT hx j (e2 :: es) y pos ht.2 h2)) fun r => by simp only [ev]; exact and_tst
    · match es, h, ht with
      | [], h, _ => simp [cXor] at h
      | [e], h, ht => simp only [cXor] at h; exact t_or1 (ih.t hx j e m (by simpa using ht) h)
      | e :: e2 :: es, h, ht =>
        simp only [cXor, Option.bind_eq_some_iff, Option.map_eq_some_iff] at h
        obtain ⟨x, h1, y, h2, rfl⟩ := h
        rw [List.all_cons, Bool.and_eq_true] at ht
        exact pw_congr (t_or (ih.t hx j e x ht.1 h1) (ih.orT hx j (e2 :: es) y pos ht.2 h2)) fun r => by simp only [ev]; exact or_tst
theorem srsC {st : List Stmt} {W : WishX} {f g : En → F} (h : PSs Y st (SRd Y W lin f)) (e1 : ∀ r, g r = f r) : PSs Y st (SRd Y W lin g) := by
  have : g = f := funext e1
  rw [this]; exact h
/-- the suite's statements -/
theorem h_ok {n : Nat} (hx : SuOk Y c lin i en C) : ∀ (ss : List Stmt) (ms : List MS), cH n c en i ss = some ms → PSs Y ss (SRd Y NoW lin (evH C ms)) := by
  intro ss
  induction ss with
  | nil =>
    intro ms h
    simp only [cH] at h
    injection h with h; subst h
    exact srsC ss_nil fun r => by simp only [evH]
  | cons st ss ih =>
    intro ms h
    unfold cH at h
    split at h
    · rename_i heq; cases heq
    · rename_i x px e pos ss' heq
      injection heq with e1 e2; subst e1; subst e2
      rw [Option.bind_eq_some_iff] at h
      obtain ⟨j, h1, h⟩ := h
      split at h
      · rename_i h0
        simp only [Bool.and_eq_true, decide_eq_true_eq, Bool.not_eq_true'] at h0
        obtain ⟨⟨⟨b1, b2⟩, b3⟩, b4⟩ := h0
        simp only [Option.bind_eq_some_iff, Option.map_eq_some_iff] at h
        obtain ⟨m, h2, ms', h3, rfl⟩ := h
        have hg := slotOf_get h1
        have hloc : Y.env.scope.names.lookup x = some .local := by rw [hx.hsc]; exact b1
        have p1 := st_set (X := Y) (W := NoW) (lin := lin) (i := j) (x := x) (p := px) (pos := pos) hx.nd (by rw [hx.hN]; exact hg) (by rw [hx.hn]; exact (List.getElem?_eq_some_iff.mp hg).1) (.inl hloc) (by rw [hx.hlin]; exact b2)
          (fun k ns e => by rw [hx.scr] at e; injection e with e; injection e with e1 e2; rw [← e1]; exact fun z => b3 z.symm) ((xSnd n).e hx e m h2) (sw_no b4) (.inr hloc)
        exact srsC (ss_cons p1 (ih ms' h3)) fun r => by
          simp only [evH]
          cases ev C m r <;> rfl
      · cases h
    · rename_i e pos heq
      injection heq with e1 e2; subst e1; subst e2
      rw [Option.map_eq_some_iff] at h
      obtain ⟨m, h2, rfl⟩ := h
      exact srsC (ss_cons (st_ret ((xSnd n).e hx e m h2)) ss_nil) fun r => by
        simp only [evH]
        cases ev C m r <;> rfl
    · cases h
end
/-! ### the clause -/
def linS (lin : Lc) (i : Nat) (a : Addr) : Lc := ⟨fun b _ => b = a, lin.lin, some (i, []), lin.n, true⟩
section
variable {P : Program} {w : World} {H0 H : Hp} {bd0 : Addr → Prop} {l1 l2 : Lc} {r : En} {σ : L2.St} {i : Nat}
theorem bdOf_slot (e1 : l2.lin = l1.lin) (hi : i ∉ l1.lin) (v : Option V) : bdOf bd0 l2 (BT.drop r i) (σ.set i v) = bdOf bd0 l1 r σ := by
  funext a
  apply propext
  refine or_congr Iff.rfl ⟨fun ⟨j, d, hj, h1, h2⟩ => ?_, fun ⟨j, d, hj, h1, h2⟩ => ?_⟩
  · rw [e1] at hj
    obtain ⟨ne, h1⟩ := drop_get h1
    rw [List.getElem?_set_ne (Ne.symm ne)] at h2
    exact ⟨j, d, hj, h1, h2⟩
  · have ne : j ≠ i := fun z => hi (z ▸ hj)
    exact ⟨j, d, by rw [e1]; exact hj, by unfold BT.drop; rw [List.getElem?_set_ne (Ne.symm ne)]; exact h1, by rw [List.getElem?_set_ne (Ne.symm ne)]; exact h2⟩
theorem StOk.slot (h : StOk P w H0 bd0 l1 r σ H) (e1 : l2.lin = l1.lin) (e2 : l2.n = l1.n) (hi : i ∉ l1.lin) (v : Option V) (hs : ScrOk l2 (σ.set i v) H) : StOk P w H0 bd0 l2 (BT.drop r i) (σ.set i v) H where
  same := h.same
  bad0 := h.bad0
  env := by
    rw [bdOf_slot e1 hi v]
    refine ⟨fun j d hj => ?_, hs⟩
    obtain ⟨ne, hj⟩ := drop_get hj
    obtain ⟨u, q1, q2⟩ := h.env.vals j d hj
    exact ⟨u, by rw [List.getElem?_set_ne (Ne.symm ne)]; exact q1, by rw [e1]; exact q2⟩
  own := fun j d hj hr => by
    rw [e1] at hj
    obtain ⟨ne, hr⟩ := drop_get hr
    obtain ⟨a, q1, q2⟩ := h.own j d hj hr
    exact ⟨a, by rw [List.getElem?_set_ne (Ne.symm ne)]; exact q1, q2⟩
  uniq := fun j k d e a hj hk h1 h2 h3 h4 => by
    rw [e1] at hj hk
    obtain ⟨n1, h1⟩ := drop_get h1
    obtain ⟨n2, h2⟩ := drop_get h2
    rw [List.getElem?_set_ne (Ne.symm n1)] at h3
    rw [List.getElem?_set_ne (Ne.symm n2)] at h4
    exact h.uniq j k d e a hj hk h1 h2 h3 h4
  len := by rw [List.length_set, e2]; exact h.len
end
section
variable {X : Cx} {W : WishX} {lin : Lc} {C : CallF} {i : Nat}
theorem pe_never {e : Expr} : PE X e (fun _ _ _ => False) := ⟨fun _ _ _ _ _ _ h => h.elim⟩
theorem isx_ok {a A : Addr} {oe : Obj} {pn : List (Addr × Obj)} {row : List (Str × Bool)} {en : Str} (E : ExcK X.K X.mg A row) (hz : Zc (.ref A) none oe) (hf : ∃ vs, oe.data = .fields vs) (hi : X.N[i]? = some en) (hv : Vis X.env.scope en)
    (n1 : (en == ("__debug__" : Str)) = false) (n2 : (en == ("__classdict__" : Str)) = false) (hgi : Gl X "isinstance") (hmi : X.mg "isinstance" = none) (y : Str) (p p1 p2 pos : Pos) (hgy : Gl X y) (hy : nameOk y = true) :
    PE (X.suite a ((a, oe) :: pn)) (.Call (.Name "isinstance" p) [.Name en p1, .Name y p2] [] pos) (ER (X.suite a ((a, oe) :: pn)) NoW (linS lin i a) false fun _ => isC row C "isinstance" [.str y]) := by
  obtain ⟨m1, m2, m3⟩ := nameOk_of hy
  cases hr : row.lookup y with
  | none =>
    refine pe_imp pe_never fun σ H Q h => ?_
    obtain ⟨bd, r, hb, he, q⟩ := h
    have e : isC row C "isinstance" [.str y] = .bad := by simp [isC, hr]
    rw [e] at q
    exact q
  | some b =>
    obtain ⟨cv, hcv, k1, _⟩ := E.row y b hr
    have hcls : ∃ v, PE (X.suite a ((a, oe) :: pn)) (.Name y p2) (tC v) ∧ ∀ u, RelV v u → u = cv := by
      rcases hcv with ⟨hm, B, rfl⟩ | ⟨hm, hbt, T, rfl⟩
      · exact ⟨.ref B, pe_glob (X := X.suite a ((a, oe) :: pn)) hgy hm rfl m1, fun u z => z⟩
      · exact ⟨.ty T, pe_bltn (X := X.suite a ((a, oe) :: pn)) hgy hm hbt rfl m3 m1, fun u z => z⟩
    obtain ⟨v, hp, hrel⟩ := hcls
    have hpv : PE (X.suite a ((a, oe) :: pn)) (.Name en p1) (tVar i) := pe_var (X := X.suite a ((a, oe) :: pn)) hi hv n1 n2
    refine pe_imp (pe_callB (X := X.suite a ((a, oe) :: pn)) (call_isE E.cls hz hf) hgi hmi (by decide +kernel) (pa_cons hpv (pa_cons hp pa_nil))) fun σ H Q h => ?_
    obtain ⟨bd, r, hb, he, q⟩ := h
    obtain ⟨a', o, e1, e2⟩ := he.scr i [] rfl
    have ea : a' = a := e2.elim id fun z => Bool.noConfusion (show true = false from z.1)
    subst ea
    have e : isC row C "isinstance" [.str y] = .ok (.bool b) := by simp [isC, hr]
    rw [e] at q
    exact ⟨.ref a', e1, v, cv, b, rfl, hrel, k1, q (.bl b) H (Same.refl H) (.bl b)⟩
/-- what comes of a try -/
def tryF (C : CallF) (i : Nat) (tbl : List (Str × Bool × List (Str × Bool))) (su : List MS) (f : F) : F := match f with
  | .exc c r' => (match tbl.lookup c with
    | some (true, row) => (evH (isC row C) su (drop r' i)).env fun r2 => drop r2 i
    | some (false, _) => .exc c r'
    | none => .bad)
  | f => f
def tblOf (exs : Exs) (x : Str) : List (Str × Bool × List (Str × Bool)) := exs.map fun p => (p.1, (p.2.lookup x).getD false, p.2)
theorem tbl_look {exs : Exs} {x c : Str} : (tblOf exs x).lookup c = (exs.lookup c).map fun row => ((row.lookup x).getD false, row) := by
  unfold tblOf
  induction exs with
  | nil => rfl
  | cons p exs ih =>
    rw [List.map_cons, List.lookup_cons, List.lookup_cons]
    cases c == p.1 <;> simp [ih]
theorem st_try {exs : Exs} {x n : Str} {A0 : Addr} {body suite : List Stmt} {b₀ : Stmt} {np pos pos' : Pos} {fb : En → F} {su : List MS} (hs : X.stack = X.env :: X.outer) (hf : X.env.frame = some X.env.locals) (hN : X.N.Nodup) (hi : X.N[i]? = some n) (hln : X.env.kindOf n = some .local)
    (tk : Takes X (wx X.mg W)) (hE : ExOk X.K X.mg exs) (hgx : Gl X x) (hdx : (x == ("__debug__" : Str)) = false) (hx0 : X.mg x = some (.ref A0)) (hall : ∀ c row, exs.lookup c = some row → (row.lookup x).isSome = true)
    (hscr : lin.scr = none) (hil : i ∉ lin.lin) (hin : i < lin.n)
    (hb : ∀ (W' : WishX) (pn : List (Addr × Obj)) (xe : Value → Shared → Prop), Takes (X.tr pn xe) (wx X.mg W') → PassesOwn (model X.prog X.w) X.A X.env xe → PSs (X.tr pn xe) body (SRd (X.tr pn xe) W' lin fb))
    (hsu : ∀ (a : Addr) (oe : Obj) (pn : List (Addr × Obj)) (A : Addr) (row : List (Str × Bool)), ExcK X.K X.mg A row → Zc (.ref A) none oe → (∃ vs, oe.data = .fields vs) → PSs (X.suite a ((a, oe) :: pn)) (b₀ :: suite) (SRd (X.suite a ((a, oe) :: pn)) NoW (linS lin i a) (evH (isC row C) su))) :
    PS X (.Try body [.ExceptHandler (some (.Name x np)) (some n) (b₀ :: suite) pos'] [] [] pos) (SRd X W lin fun r => tryF C i (tblOf exs x) su (fb r)) := by
  let W1 : WX → WishX := fun V c σ H => ∀ cls, X.mg c = some cls → V cls none σ H
  let ts : Addr → Value → Option Addr → TS := fun a cls d D σ H => d = none ∧ ∃ A row, cls = .ref A ∧ ExcK X.K X.mg A row ∧ SRd X NoW (linS lin i a) (evH (isC row C) su) D σ H
  refine ps_imp (ps_try_as (c := .ref A0) (i := i) (tb := fun V => SRd X (W1 V) lin fb) (ts := ts) (Wout := wx X.mg W) hs hf hN hi hln ⟨hgx, hdx, .inl hx0⟩ tk (fun V pn xe tk' hp => ?_) (fun a oe cls d pn hz hfl => ?_)) fun D σ H h => ?_
  · exact hb (W1 V) pn xe (tk'.imp fun cls d σ H z => by
      obtain ⟨rfl, c, e, z⟩ := z
      exact z cls e) hp
  · refine ⟨fun pins s σ H D I h => ?_⟩
    obtain ⟨rfl, A, row, rfl, E, q⟩ := h
    exact (hsu a oe pn A row E hz hfl).run pins s σ H D I q
  · obtain ⟨H0, bd0, r, ok, q⟩ := h
    refine ⟨H0, bd0, r, ok, ?_⟩
    dsimp only at q
    cases e : fb r with
    | nx r' => rw [e] at q; exact q
    | rt d => rw [e] at q; exact q
    | bk r' => rw [e] at q; exact q
    | ct r' => rw [e] at q; exact q
    | bad => rw [e] at q; exact q
    | exc c r' =>
      rw [e] at q
      intro σ' H' ok' cls hcls
      simp only [tryF, tbl_look] at q
      cases hl : exs.lookup c with
      | none => rw [hl] at q; exact q.elim
      | some row =>
        rw [hl] at q
        obtain ⟨A, hmA, E⟩ := hE c row hl
        rw [hcls] at hmA
        injection hmA with hmA; subst hmA
        obtain ⟨b, hb'⟩ := Option.isSome_iff_exists.mp (hall c row hl)
        obtain ⟨cv, hcv, _, k2⟩ := E.row x b hb'
        have ecv : cv = .ref A0 := by
          rcases hcv with ⟨z, _⟩ | ⟨z, _⟩
          · rw [hx0] at z; injection z with z; exact z.symm
          · rw [hx0] at z; cases z
        subst ecv
        simp only [Option.map_some, hb', Option.getD_some] at q
        refine ⟨b, k2, fun hbt a ha => ?_, fun hbf => ?_⟩
        · subst hbt
          simp only at q
          have hsl : σ'.length = lin.n := ok'.len
          have ok2 : StOk X.prog X.w H0 bd0 (linS lin i a) (drop r' i) (σ'.set i (some (.ref a))) H' := StOk.slot (l1 := lin) (l2 := linS lin i a) ok' rfl rfl hil (some (.ref a)) fun j ns ej => by
            have ej : some (i, ([] : List Int)) = some (j, ns) := ej
            injection ej with ej; injection ej with e1 e2; subst e1; subst e2
            exact ⟨a, default, List.getElem?_set_self (by rw [hsl]; exact hin), .inl rfl⟩
          have back : ∀ {r2 : En} {σ2 : L2.St} {H2 : Hp}, StOk X.prog X.w H0 bd0 (linS lin i a) r2 σ2 H2 → StOk X.prog X.w H0 bd0 lin (drop r2 i) (σ2.set i none) H2 := fun {r2 σ2 H2} ok3 => StOk.slot (l1 := linS lin i a) (l2 := lin) ok3 rfl rfl hil none fun j ns ej => by rw [hscr] at ej; cases ej
          refine ⟨rfl, A, row, rfl, E, H0, bd0, drop r' i, ok2, ?_⟩
          cases e4 : evH (isC row C) su (drop r' i) with
          | nx r2 => rw [e4] at q; exact fun σ2 H2 ok3 => q _ _ (back ok3)
          | rt d => rw [e4] at q; exact q
          | bk r2 => rw [e4] at q; exact fun σ2 H2 ok3 => q _ _ (back ok3)
          | ct r2 => rw [e4] at q; exact fun σ2 H2 ok3 => q _ _ (back ok3)
          | exc c2 r2 => rw [e4] at q; exact q.elim
          | bad => rw [e4] at q; exact q
        · subst hbf
          simp only at q
          exact ⟨rfl, c, hcls, q σ' H' ok'⟩
end
end BT
set_option Elab.async false
set_option linter.all false
set_option maxRecDepth 100000
set_option maxHeartbeats 8000000
/-! BTStc: statements, compiled; and that it is right. -/
namespace BT
open PySem PySem.Spec PyProof.Rows L2
/-- a slot that may be set -/
def setOk (c : CC) (x : Str) (i : Nat) : Bool := isLoc c.sc x && decide (i ∉ c.lin) && decide (c.scr ≠ some i)
def tgSet (c : CC) (tg : Expr) : Bool := (namesOf tg).all fun x => match slotOf c.N x with | some i => setOk c x i | none => false
/-- what makes a new object -/
def cF (n : Nat) (c : CC) (e : Expr) : Option M := match e with
  | .Dict [] [] _ => some .dnew
  | .List es _ => if es.length ≤ 1000 then (cEs n c es).map .lst else none
  | .Dict [some k] [v] _ => (cE n c k).bind fun x => (whole (cE n c v)).map fun y => .ddisp x y
  | .Call (.Name f _) [a] [] _ => if f = "dict" then (if isGl c.sc f && !isStar a then (cE n c a).map fun x => .blt .dict [x] else none)
      else if f = "list" then (if isGl c.sc f && !isStar a then (cE n c a).map fun x => .blt .list [x] else none) else none
  | _ => none
/-- what changes an object in place -/
def cL (n : Nat) (c : CC) (e : Expr) : Option MS := match e with
  | .Call (.Attribute (.Name x _) m apos) [a] [] cpos => (slotOf c.N x).bind fun i => if decide (i ∈ c.lin) && nameOk x && isVis c.sc x && !isStar a && (apos.endLine == cpos.line) then
      (if m = "append" then (whole (cE n c a)).map fun y => .app i y else if m = "extend" then (whole (cE n c a)).map fun y => .ext i y else none) else none
  | _ => none
/-- what a slot takes out of another -/
def cM (c : CC) (x : Str) (j : Nat) (e : Expr) : Option MS := match e with
  | .Name y _ => (slotOf c.N y).bind fun i => if decide (i ∈ c.lin) && nameOk y && isVis c.sc y && setOk c x j then some (.mv j i) else none
  | .Call (.Attribute (.Name y _) m apos) [] [] cpos => if m = "pop" then ((slotOf c.N y).bind fun i => if decide (i ∈ c.lin) && nameOk y && isVis c.sc y && (apos.endLine == cpos.line) && setOk c x j then some (.popTo j i) else none) else none
  | .Call (.Attribute (.Name y _) m apos) [.Constant (.int 0) _ _] [] cpos => if m = "pop" then ((slotOf c.N y).bind fun i => if decide (i ∈ c.lin) && nameOk y && isVis c.sc y && (apos.endLine == cpos.line) && setOk c x j then some (.pop0 j i) else none) else none
  | _ => none
/-- of this nothing is told -/
def badS : MS := .ret (.neg (.str Str.empty))
mutual
def cS : Nat → CC → Stmt → Option MS
  | 0, _, _ => none
  | n + 1, c, s => match s with
    | .Pass _ => some .pass
    | .Break _ => some .brk
    | .Continue _ => some .cont
    | .Return none _ => some (.ret .non)
    | .Return (some e) _ => (cE n c e).bind fun m => match m, e with
      | .lin i, .Name x _ => if nameOk x && isVis c.sc x && decide (slotOf c.N x = some i) && decide (i ∈ c.lin) then some (.ret (.lin i)) else none
      | .lin _, _ => none
      | m, _ => some (.ret m)
    | .If t a b _ => if tOk n t then (cE n c t).bind fun k => (cSs n c a).bind fun x => (cSs n c b).map fun y => .iff k x y else none
    | .Expr e _ => match cL n c e with
      | some s => some s
      | none => if isLcE e then none else (cE n c e).map .exprS
    | .Assign [.Name x px] e _ => (slotOf c.N x).bind fun i => match cM c x i e with | some s => some s | none => if i ∈ c.lin then (if isLoc c.sc x && decide (c.scr ≠ some i) then (cF n c e).map fun m => .setL i m else none) else if !setOk c x i then none else
        match e with
        | .ListComp elt [⟨tg, iter, ifs, 0⟩] scope pos => if swB c.sc x px scope pos && decide (c.sc.names.lookup x ≠ some .local) then none else (whole (cE n c e)).map fun m => .set i m
        | .Dict [some a] [b] p => (cF n c (.Dict [some a] [b] p)).map fun m => .set i m
        | e => if isLcE e then none else (whole (cE n c e)).map fun m => .set i m
    | .Assign [.Subscript (.Name x _) ke _] ve _ => (slotOf c.N x).bind fun i => if decide (i ∈ c.lin) && nameOk x && isVis c.sc x then (cE n c ke).bind fun k => (whole (cE n c ve)).map fun v => .put i k v else none
    | .Assign [.Tuple ts kt pt] e _ => (slotsOf c.N ts).bind fun is => if !tgSet c (.Tuple ts kt pt) then none else
        match e with
        | .Tuple vs _ _ => (swS c.sc ts vs).bind fun o => (match o with
          | none => (whole (cE n c e)).map fun m => .unp is m
          | some names => if decide (vs.length = is.length) && decide (is.Nodup) && decide (names = namesOf (.Tuple ts kt pt)) && (names.all fun x => decide (c.sc.names.lookup x = some .local)) && (decide (is.length = 2) || decide (is.length = 3)) then (cEs n c vs).map fun ms => .par is ms else none)
        | e => (whole (cE n c e)).map fun m => .unp is m
    | .For tg iter body [] _ => if isSetE iter || !tgSet c tg then none else (tgOf c.N tg).bind fun t => (cI n c tg iter).bind fun it => if it.2.any M.isLin then none else (cSs n c body).map fun b => .for_ t it.1 it.2 b
    | .While t body [] _ => if tOk n t then (cE n c t).bind fun k => (cSs n c body).map fun b => .while_ k b else none
    | .Raise (some (.Call (.Name x _) [.Constant (.str _) _ _] [] _)) none _ => if isGl c.sc x && nameOk x && (c.exs.lookup x).isSome then some (.raise x) else some badS
    | .Raise _ _ _ => some badS
    | .Try body [.ExceptHandler (some (.Name x _)) (some en) (b₀ :: suite) _] [] [] _ => (slotOf c.N en).bind fun i =>
        if isGl c.sc x && nameOk x && nameOk en && (c.exs.lookup x).isSome && (c.exs.all fun p => (p.2.lookup x).isSome) && decide (c.sc.names.lookup en = some .local) && decide (i ∉ c.lin) && decide (c.scr = none) && isGl c.sc "isinstance"
        then (cSs n c body).bind fun bm => (cH n c en i (b₀ :: suite)).map fun su => .try_ i (tblOf c.exs x) bm su else none
    | _ => none
def cSs : Nat → CC → List Stmt → Option (List MS)
  | 0, _, _ => none
  | _ + 1, _, [] => some []
  | n + 1, c, s :: ss => (cS n c s).bind fun x => (cSs n c ss).map (x :: ·)
end
/-- at the level of a def's body -/
structure XS (X : Cx) (c : CC) (lin : Lc) (W : WishX) (k : Nat) (C : CallF) : Prop extends XO X c lin W k C where
  hp : PassesOwn (model X.prog X.w) X.A X.env X.xe
  hfn : ∀ x, X.fn x = true
  exs : ExOk X.K X.mg c.exs
  stk : X.stack = X.env :: X.outer
  frm : X.env.frame = some X.env.locals
section
variable {X : Cx} {c : CC} {lin : Lc} {W : WishX} {k : Nat} {C : CallF}
theorem sr_congr {st : Stmt} {f g : En → F} (h : PS X st (SRd X W lin f)) (e1 : ∀ r, g r = f r) : PS X st (SRd X W lin g) := by
  have : g = f := funext e1
  rw [this]; exact h
theorem srs_congr {st : List Stmt} {f g : En → F} (h : PSs X st (SRd X W lin f)) (e1 : ∀ r, g r = f r) : PSs X st (SRd X W lin g) := by
  have : g = f := funext e1
  rw [this]; exact h
theorem setOk_of (hx : XO X c lin W k C) {x : Str} {i : Nat} (h1 : slotOf c.N x = some i) (h : setOk c x i = true) : X.N[i]? = some x ∧ Loc X.env.scope x ∧ i < lin.n ∧ i ∉ lin.lin ∧ ∀ j ns, lin.scr = some (j, ns) → j ≠ i := by
  unfold setOk at h
  rw [Bool.and_eq_true, Bool.and_eq_true, decide_eq_true_eq, decide_eq_true_eq] at h
  have hg := slotOf_get h1
  refine ⟨by rw [hx.hN]; exact hg, ?_, by rw [hx.hn]; exact (List.getElem?_eq_some_iff.mp hg).1, by rw [hx.hlin]; exact h.1.2, fun j ns e z => ?_⟩
  · have := loc_of h.1.1
    rw [← hx.hsc] at this
    exact this
  · subst z
    exact h.2 (by rw [← hx.hscr, e]; rfl)
theorem st_retN {pos : Pos} : PS X (.Return none pos) (SRd X W lin fun r => .rt .none) := by
  refine ps_imp ps_retN fun D σ H h => ?_
  obtain ⟨H0, bd0, r, ok, q⟩ := h
  exact q .non H ok.same .non
theorem st_par3 {i j l : Nat} {x y z : Str} {a b d : Expr} {px py pz pt pos : Pos} {kt k2 pt2} {f : En → R (List D)} (hc : X.calm = true) (hN : X.N.Nodup) (hi : X.N[i]? = some x) (hj : X.N[j]? = some y) (hl : X.N[l]? = some z) (hij : i ≠ j) (hil : i ≠ l) (hjl : j ≠ l)
    (hx : X.env.scope.names.lookup x = some .local) (hy : X.env.scope.names.lookup y = some .local) (hz : X.env.scope.names.lookup z = some .local) (ha : PA X [a, b, d] (AR X W lin f)) (hslots : ∀ k ∈ [i, j, l], k < lin.n ∧ k ∉ lin.lin ∧ ∀ z ns, lin.scr = some (z, ns) → z ≠ k)
    (hw : swappedStores [.Tuple [.Name x px, .Name y py, .Name z pz] kt pt] (.Tuple [a, b, d] k2 pt2) X.env = pure (some [x, y, z])) :
    PS X (.Assign [.Tuple [.Name x px, .Name y py, .Name z pz] kt pt] (.Tuple [a, b, d] k2 pt2) pos) (SRd X W lin fun r => (f r).toF r fun ds => if [i, j, l].length = ds.length then .nx (putAll [i, j, l] ds r) else .bad) := by
  refine ps_imp (ps_par3 hc hN hi hj hl hij hil hjl hx hy hz ha hw sw_tup) fun D σ H h => ?_
  obtain ⟨H0, bd0, r, ok, q⟩ := h
  refine ⟨_, r, ok.bad, ok.env, ?_⟩
  cases e : f r with
  | bad => simp only [e, R.toF_bad] at q
  | exc c => simp only [e, R.toF_exc] at q; exact fun H' s => q σ H' (ok.kept s)
  | ok ds =>
    simp only [e, R.toF_ok] at q
    intro vs H1 s1 rs
    by_cases hd : [i, j, l].length = ds.length
    · rw [if_pos hd] at q
      have hvl : vs.length = 3 := by rw [rs.length, ← hd]; rfl
      match vs, hvl with
      | [u, v, w], _ =>
        have ok2 := StOk.putAll (is := [i, j, l]) (ok.kept s1) hslots hd rs
        exact ⟨u, v, w, rfl, q _ _ ok2⟩
    · rw [if_neg hd] at q; exact q.elim
/-- what is shown at a depth -/
structure SSnd (wf n : Nat) : Prop where
  s : ∀ {X c lin W k C}, XS X c lin W k C → ∀ s m, cS n c s = some m → PS X s (SRd X W lin (evS C wf m))
  ss : ∀ {X c lin W k C}, XS X c lin W k C → ∀ ss ms, cSs n c ss = some ms → PSs X ss (SRd X W lin (evSs C wf ms))
theorem ss_step {wf n : Nat} (ih : SSnd wf n) (hx : XS X c lin W k C) (ss : List Stmt) (ms : List MS) (h : cSs (n + 1) c ss = some ms) : PSs X ss (SRd X W lin (evSs C wf ms)) := by
  cases ss with
  | nil => simp only [cSs] at h; injection h with h; subst h; exact srs_congr ss_nil fun r => by simp only [evSs]
  | cons s ss =>
    simp only [cSs, Option.bind_eq_some_iff, Option.map_eq_some_iff] at h
    obtain ⟨x, h1, xs, h2, rfl⟩ := h
    exact srs_congr (ss_cons (ih.s hx s x h1) (ih.ss hx ss xs h2)) fun r => by simp only [evSs]
theorem cL_ok {wf n : Nat} (hx : XS X c lin W k C) {e : Expr} {pos : Pos} {m : MS} (h : cL n c e = some m) : PS X (.Expr e pos) (SRd X W lin (evS C wf m)) := by
  unfold cL at h
  split at h
  · rename_i x p mt apos a cpos
    rw [Option.bind_eq_some_iff] at h
    obtain ⟨i, h1, h⟩ := h
    split at h
    · rename_i h2
      simp only [Bool.and_eq_true, decide_eq_true_eq, Bool.not_eq_true'] at h2
      obtain ⟨⟨⟨⟨b1, b2⟩, b3⟩, b4⟩, b5⟩ := h2
      obtain ⟨n1, n2, n3⟩ := nameOk_of b2
      have hN : X.N[i]? = some x := by rw [hx.hN]; exact slotOf_get h1
      split at h
      · rename_i hm
        subst hm
        rw [Option.map_eq_some_iff] at h
        obtain ⟨y, h3, rfl⟩ := h
        obtain ⟨h4, h5⟩ := whole_some h3
        exact sr_congr (st_app (by rw [hx.hlin]; exact b1) hN (hx.toXO.vis b3) n1 n2 (er_false ((cSnd n).e hx.toXO a y h4) h5) b4 b5) fun r => by
          simp only [evS]
          try (cases get r i with | ok d => cases d <;> rfl | exc c => rfl | bad => rfl)
      · split at h
        · rename_i hm
          subst hm
          rw [Option.map_eq_some_iff] at h
          obtain ⟨y, h3, rfl⟩ := h
          obtain ⟨h4, h5⟩ := whole_some h3
          exact sr_congr (st_ext (by rw [hx.hlin]; exact b1) hN (hx.toXO.vis b3) n1 n2 (er_false ((cSnd n).e hx.toXO a y h4) h5) b4 b5) fun r => by
            simp only [evS]
            try (cases get r i with
              | ok d => cases d <;> first | rfl | (simp only [R.toF_ok]; cases ev C y r with | ok d2 => cases d2 <;> rfl | exc c => rfl | bad => rfl)
              | exc c => rfl
              | bad => rfl)
        · cases h
    · cases h
  · cases h
theorem ef_congr {e : Expr} {f g : En → R D} (h : PE X e (EF X W lin f)) (e1 : ∀ r, g r = f r) : PE X e (EF X W lin g) := by
  have : g = f := funext e1
  rw [this]; exact h
theorem cF_ok {n : Nat} (hx : XO X c lin W k C) {e : Expr} {m : M} (h : cF n c e = some m) : PE X e (EF X W lin (ev C m)) ∧ isLcE e = false := by
  unfold cF at h
  split at h
  · injection h with h; subst h
    exact ⟨ef_congr f_dnew fun r => by simp only [ev], rfl⟩
  · split at h
    · rename_i hl
      rw [Option.map_eq_some_iff] at h
      obtain ⟨ms, h1, rfl⟩ := h
      obtain ⟨a1, a2, a3⟩ := (cSnd n).es hx _ ms h1
      exact ⟨ef_congr (f_lst a1 (len_ok a2 hl)) fun r => by simp only [ev], rfl⟩
    · cases h
  · simp only [Option.bind_eq_some_iff, Option.map_eq_some_iff] at h
    obtain ⟨x, h1, y, h2, rfl⟩ := h
    obtain ⟨h3, h4⟩ := whole_some h2
    exact ⟨ef_congr (f_disp hx.u64 ((cSnd n).e hx _ x h1) (er_false ((cSnd n).e hx _ y h3) h4)) fun r => by simp only [ev], rfl⟩
  · split at h
    · rename_i hf
      subst hf
      split at h
      · rename_i hg
        rw [Bool.and_eq_true, Bool.not_eq_true'] at hg
        rw [Option.map_eq_some_iff] at h
        obtain ⟨x, h1, rfl⟩ := h
        exact ⟨ef_congr (f_dict hx.u64 hx.calm (hx.gl hg.1) (hx.blt "dict" (by decide)) ((cSnd n).e hx _ x h1) hg.2) fun r => by simp only [ev]; rw [evs1], rfl⟩
      · cases h
    · split at h
      · rename_i hf
        subst hf
        split at h
        · rename_i hg
          rw [Bool.and_eq_true, Bool.not_eq_true'] at hg
          rw [Option.map_eq_some_iff] at h
          obtain ⟨x, h1, rfl⟩ := h
          exact ⟨ef_congr (f_list hx.calm (hx.gl hg.1) (hx.blt "list" (by decide)) ((cSnd n).e hx _ x h1) hg.2) fun r => by simp only [ev]; rw [evs1], rfl⟩
        · cases h
      · cases h
  · cases h
theorem cM_ok {wf : Nat} (hx : XS X c lin W k C) {x : Str} {j : Nat} {e : Expr} {px pos : Pos} {m : MS} (hj : slotOf c.N x = some j) (h : cM c x j e = some m) : PS X (.Assign [.Name x px] e pos) (SRd X W lin (evS C wf m)) := by
  unfold cM at h
  split at h
  · rw [Option.bind_eq_some_iff] at h
    obtain ⟨i, h1, h⟩ := h
    split at h
    · rename_i h2
      injection h with h; subst h
      simp only [Bool.and_eq_true, decide_eq_true_eq] at h2
      obtain ⟨⟨⟨b1, b2⟩, b3⟩, b4⟩ := h2
      obtain ⟨n1, n2, n3⟩ := nameOk_of b2
      obtain ⟨a1, a2, a3, a4, a5⟩ := setOk_of hx.toXO hj b4
      exact sr_congr (st_mv hx.nd (by rw [hx.hlin]; exact b1) (by rw [hx.hN]; exact slotOf_get h1) (hx.toXO.vis b3) n1 n2 a1 a3 a2 a4 a5 (.inl (hx.hfn x))) fun r => by simp only [evS]
    · cases h
  · split at h
    · rename_i hm
      subst hm
      rw [Option.bind_eq_some_iff] at h
      obtain ⟨i, h1, h⟩ := h
      split at h
      · rename_i h2
        injection h with h; subst h
        simp only [Bool.and_eq_true, decide_eq_true_eq] at h2
        obtain ⟨⟨⟨⟨b1, b2⟩, b3⟩, b5⟩, b4⟩ := h2
        obtain ⟨n1, n2, n3⟩ := nameOk_of b2
        obtain ⟨a1, a2, a3, a4, a5⟩ := setOk_of hx.toXO hj b4
        exact sr_congr (st_pop hx.nd (by rw [hx.hlin]; exact b1) (by rw [hx.hN]; exact slotOf_get h1) (hx.toXO.vis b3) n1 n2 b5 a1 a3 a2 a4 a5 (.inl (hx.hfn x))) fun r => by
          simp only [evS]
          try (cases get r i with
            | ok d => cases d <;> first | rfl | (rename_i xs; simp only [R.toF_ok]; cases xs.getLast? <;> rfl)
            | exc c => rfl
            | bad => rfl)
      · cases h
    · cases h
  · split at h
    · rename_i hm
      subst hm
      rw [Option.bind_eq_some_iff] at h
      obtain ⟨i, h1, h⟩ := h
      split at h
      · rename_i h2
        injection h with h; subst h
        simp only [Bool.and_eq_true, decide_eq_true_eq] at h2
        obtain ⟨⟨⟨⟨b1, b2⟩, b3⟩, b5⟩, b4⟩ := h2
        obtain ⟨n1, n2, n3⟩ := nameOk_of b2
        obtain ⟨a1, a2, a3, a4, a5⟩ := setOk_of hx.toXO hj b4
        exact sr_congr (st_pop0 hx.nd (by rw [hx.hlin]; exact b1) (by rw [hx.hN]; exact slotOf_get h1) (hx.toXO.vis b3) n1 n2 b5 a1 a3 a2 a4 a5 (.inl (hx.hfn x))) fun r => by
          simp only [evS]
          try (cases get r i with
            | ok d => cases d <;> first | rfl | (rename_i xs; cases xs <;> rfl)
            | exc c => rfl
            | bad => rfl)
      · cases h
    · cases h
  · cases h
theorem whole_of {o : Option M} {m : M} (h : whole o = some m) : o = some m ∧ m.isLin = false := whole_some h
theorem st_setE {wf n : Nat} (hx : XS X c lin W k C) {x : Str} {i : Nat} {e : Expr} {px pos : Pos} {m : M} (h1 : slotOf c.N x = some i) (h2 : setOk c x i = true) (h3 : cE n c e = some m) (h4 : m.isLin = false) (hsw : swapsWith e (some (.Name x px)) pos.line X.env = pure false) :
    PS X (.Assign [.Name x px] e pos) (SRd X W lin (evS C wf (.set i m))) := by
  obtain ⟨a1, a2, a3, a4, a5⟩ := setOk_of hx.toXO h1 h2
  exact sr_congr (st_set hx.nd a1 a3 a2 a4 a5 (er_false ((cSnd n).e hx.toXO e m h3) h4) hsw (.inl (hx.hfn x))) fun r => by simp only [evS]
theorem st_setC {wf n : Nat} (hx : XS X c lin W k C) {x : Str} {i : Nat} {elt tg iter : Expr} {ifs : List Expr} {scope : Scope} {px pos spos : Pos} {m : M} (h1 : slotOf c.N x = some i) (h2 : setOk c x i = true) (h3 : cE n c (.ListComp elt [⟨tg, iter, ifs, 0⟩] scope pos) = some m)
    (h0 : ¬ (swB c.sc x px scope pos && decide (c.sc.names.lookup x ≠ some .local)) = true) :
    PS X (.Assign [.Name x px] (.ListComp elt [⟨tg, iter, ifs, 0⟩] scope pos) spos) (SRd X W lin (evS C wf (.set i m))) := by
  obtain ⟨a1, a2, a3, a4, a5⟩ := setOk_of hx.toXO h1 h2
  cases n with
  | zero => simp [cE] at h3
  | succ n =>
    have P := c_lc (cSnd n) hx.toXO h3
    have hl : m.isLin = false := by
      obtain ⟨own, t, fi, q, y, _, _, _, _, _, _, h7, _⟩ := P.ex
      exact h7
    cases hb : swB c.sc x px scope pos with
    | false => exact st_setE hx h1 h2 h3 hl (by rw [sw_lc, hx.hsc, hb])
    | true =>
      have hloc : X.env.scope.names.lookup x = some .local := by
        rw [hx.hsc]
        rw [hb] at h0
        simpa using h0
      obtain ⟨own, t, fi, q, y, b1, b2, b3, b4, b5, b6, b7, b8⟩ := P.ex
      exact sr_congr (st_setLc hx.calm hx.nd a1 a3 hloc a4 a5 (by rw [sw_lc, hx.hsc, hb]) b2 b1 b3 b4 b5 b6 b8) fun r => by simp only [evS]
theorem tgSet_of (hx : XO X c lin W k C) {tg : Expr} {t : Tg} (h : tgOf c.N tg = some t) (hs : tgSet c tg = true) : (∀ i ∈ t.slots, i < lin.n ∧ i ∉ lin.lin ∧ ∀ j ns, lin.scr = some (j, ns) → j ≠ i) ∧ (∀ (x : Str) (i : Nat) (p : Pos), slotOf c.N x = some i → x ∈ namesOf tg → X.N[i]? = some x ∧ Loc X.env.scope x) := by
  have key : ∀ x i, slotOf c.N x = some i → x ∈ namesOf tg → setOk c x i = true := fun x i h1 h2 => by
    have := List.all_eq_true.mp hs x h2
    simp only [h1] at this
    exact this
  refine ⟨?_, fun x i p h1 h2 => ?_⟩
  · cases tg with
    | Name x p =>
      simp only [tgOf, Option.map_eq_some_iff] at h
      obtain ⟨i, h1, rfl⟩ := h
      intro j hj
      have : j = i := by simpa [Tg.slots] using hj
      subst this
      obtain ⟨a1, a2, a3, a4, a5⟩ := setOk_of hx h1 (key x j h1 (.head _))
      exact ⟨a3, a4, a5⟩
    | Tuple es kk p =>
      have go : ∀ {es : List Expr} {is : List Nat}, slotsOf c.N es = some is → (∀ x i, slotOf c.N x = some i → x ∈ es.filterMap nmE → setOk c x i = true) → ∀ i ∈ is, i < lin.n ∧ i ∉ lin.lin ∧ ∀ j ns, lin.scr = some (j, ns) → j ≠ i := fun {es} => by
        induction es with
        | nil => intro is h _ i hi; injection h with h; subst h; cases hi
        | cons e es ih =>
          intro is h hk i hi
          cases e with
          | Name x p =>
            simp only [slotsOf, Option.bind_eq_some_iff, Option.map_eq_some_iff] at h
            obtain ⟨j, a, is', b, rfl⟩ := h
            rcases List.mem_cons.mp hi with rfl | hi
            · obtain ⟨a1, a2, a3, a4, a5⟩ := setOk_of hx a (hk x i a (.head _))
              exact ⟨a3, a4, a5⟩
            · exact ih b (fun y j hy hm => hk y j hy (.tail _ hm)) i hi
          | _ => cases h
      rcases tgOf_tup h with ⟨is, h1, rfl⟩ | ⟨i, is, x, p1, fs, kf, pf, rfl, h1, h2, rfl⟩
      · exact go h1 fun x i hi hm => key x i hi (List.mem_append.mpr (.inl hm))
      · intro j hj
        rcases List.mem_cons.mp hj with rfl | hj
        · obtain ⟨a1, a2, a3, a4, a5⟩ := setOk_of hx h1 (key x j h1 (List.mem_append.mpr (.inl (.head _))))
          exact ⟨a3, a4, a5⟩
        · exact go h2 (fun y i hi hm => key y i hi (List.mem_append.mpr (.inr (List.mem_flatMap.mpr ⟨_, .tail _ (.head _), hm⟩)))) j hj
    | _ => cases h
  · obtain ⟨a1, a2, _⟩ := setOk_of hx h1 (key x i h1 h2)
    exact ⟨a1, a2⟩
theorem pg_top (hx : XS X c lin W k C) {tg : Expr} {t : Tg} (h : tgOf c.N tg = some t) (hs : tgSet c tg = true) : PG X tg (gOf X.K t) := by
  obtain ⟨a, b⟩ := tgSet_of hx.toXO h hs
  refine pg_tg hx.calm h fun x i p h1 h2 => ?_
  obtain ⟨c1, c2⟩ := b x i p h1 h2
  exact pg_name hx.nd c1 c2 (.inl (hx.hfn x))
theorem st_unpE {wf n : Nat} (hx : XS X c lin W k C) {ts : List Expr} {kt : Nat} {pt pos : Pos} {is : List Nat} {e : Expr} {m : M} (h1 : slotsOf c.N ts = some is) (hs : tgSet c (.Tuple ts kt pt) = true) (h3 : cE n c e = some m) (h4 : m.isLin = false) (hw : swappedStores [.Tuple ts kt pt] e X.env = pure none) :
    PS X (.Assign [.Tuple ts kt pt] e pos) (SRd X W lin (evS C wf (.unp is m))) := by
  have ht : tgOf c.N (.Tuple ts kt pt) = some (.tup is) := by simp only [tgOf, h1]
  obtain ⟨a, b⟩ := tgSet_of hx.toXO ht hs
  exact sr_congr (st_unp hx.calm (er_false ((cSnd n).e hx.toXO e m h3) h4) (pg_top hx ht hs) a sw_tup hw rfl) fun r => by simp only [evS]
theorem names_slots : ∀ {N : List Str} {ts : List Expr} {is : List Nat}, slotsOf N ts = some is → ts.length = is.length
  | N, [], is, h => by injection h with h; subst h; rfl
  | N, e :: es, is, h => by
    cases e with
    | Name x p =>
      simp only [slotsOf, Option.bind_eq_some_iff, Option.map_eq_some_iff] at h
      obtain ⟨j, a, is', b, rfl⟩ := h
      simp [names_slots b]
    | _ => cases h
theorem st_parE {wf n : Nat} (hx : XS X c lin W k C) {ts vs : List Expr} {kt k2 : Nat} {pt p2 pos : Pos} {is : List Nat} {ms : List M} (h1 : slotsOf c.N ts = some is) (hs : tgSet c (.Tuple ts kt pt) = true) (h3 : cEs n c vs = some ms)
    (hsw : swS c.sc ts vs = some (some (namesOf (.Tuple ts kt pt)))) (hv : vs.length = is.length) (hnd : is.Nodup) (hloc : ∀ x ∈ namesOf (.Tuple ts kt pt), c.sc.names.lookup x = some .local) (hl : is.length = 2 ∨ is.length = 3) :
    PS X (.Assign [.Tuple ts kt pt] (.Tuple vs k2 p2) pos) (SRd X W lin (evS C wf (.par is ms))) := by
  have ht : tgOf c.N (.Tuple ts kt pt) = some (.tup is) := by simp only [tgOf, h1]
  obtain ⟨a, b⟩ := tgSet_of hx.toXO ht hs
  have hts := names_slots h1
  have hA := ((cSnd n).es hx.toXO vs ms h3).1
  have hw : swappedStores [.Tuple ts kt pt] (.Tuple vs k2 p2) X.env = pure (some (namesOf (.Tuple ts kt pt))) := sw_of (by rw [hx.hsc]; exact hsw)
  have nm : ∀ {e : Expr} {i : Nat} {es : List Expr} {is : List Nat}, slotsOf c.N (e :: es) = some (i :: is) → ∃ x p, e = .Name x p ∧ slotOf c.N x = some i ∧ slotsOf c.N es = some is := fun {e i es is} h => by
    cases e with
    | Name x p =>
      simp only [slotsOf, Option.bind_eq_some_iff, Option.map_eq_some_iff] at h
      obtain ⟨j, a, is', b, e⟩ := h
      cases e
      exact ⟨x, p, rfl, a, b⟩
    | _ => cases h
  rcases hl with hl | hl
  · match is, hl, ts, hts, vs, hv with
    | [i, j], _, [t1, t2], _, [v1, v2], _ =>
      obtain ⟨x, px, rfl, c1, h1⟩ := nm h1
      obtain ⟨y, py, rfl, c2, h1⟩ := nm h1
      obtain ⟨d1, _⟩ := b x i px c1 (.head _)
      obtain ⟨d2, _⟩ := b y j py c2 (.tail _ (.head _))
      have hij : i ≠ j := by
        intro z; subst z
        simp at hnd
      exact sr_congr (st_par2 hx.calm hx.nd d1 d2 hij (by rw [hx.hsc]; exact hloc x (.head _)) (by rw [hx.hsc]; exact hloc y (.tail _ (.head _))) hA a hw sw_tup) fun r => by simp only [evS]
  · match is, hl, ts, hts, vs, hv with
    | [i, j, l], _, [t1, t2, t3], _, [v1, v2, v3], _ =>
      obtain ⟨x, px, rfl, c1, h1⟩ := nm h1
      obtain ⟨y, py, rfl, c2, h1⟩ := nm h1
      obtain ⟨z, pz, rfl, c3, h1⟩ := nm h1
      obtain ⟨d1, _⟩ := b x i px c1 (.head _)
      obtain ⟨d2, _⟩ := b y j py c2 (.tail _ (.head _))
      obtain ⟨d3, _⟩ := b z l pz c3 (.tail _ (.tail _ (.head _)))
      have hn : (i ≠ j ∧ i ≠ l) ∧ j ≠ l := by simpa using hnd
      exact sr_congr (st_par3 hx.calm hx.nd d1 d2 d3 hn.1.1 hn.1.2 hn.2 (by rw [hx.hsc]; exact hloc x (.head _)) (by rw [hx.hsc]; exact hloc y (.tail _ (.head _))) (by rw [hx.hsc]; exact hloc z (.tail _ (.tail _ (.head _)))) hA a hw) fun r => by simp only [evS]
theorem toF_bind {α β : Type} {x : R α} {f : α → R β} {r : En} {g : β → F} : (x.bind f).toF r g = x.toF r fun a => (f a).toF r g := by cases x <;> rfl
theorem evS_bad {wf : Nat} {r : En} : evS C wf badS r = .bad := by simp only [badS, evS, ev, R.bind_ok, R.toF_bad]
theorem st_bad {wf : Nat} {s : Stmt} : PS X s (SRd X W lin (evS C wf badS)) := by
  refine ⟨fun pins sh σ H D I q => ?_⟩
  obtain ⟨H0, bd0, r, ok, z⟩ := q
  rw [evS_bad] at z
  exact z.elim
theorem XS.tr {W' : WishX} {pn : List (Addr × Obj)} {xe : Value → Shared → Prop} (hx : XS X c lin W k C) (tk : Takes (X.tr pn xe) (wx X.mg W')) (hp : PassesOwn (model X.prog X.w) X.A X.env xe) : XS (X.tr pn xe) c lin W' k C where
  calm := hx.calm
  room := hx.room
  nd := hx.nd
  hN := hx.hN
  hsc := hx.hsc
  tk := tk
  fns := hx.fns
  blt := hx.blt
  cons := hx.cons
  hlin := hx.hlin
  hn := hx.hn
  hscr := hx.hscr
  hkl := hx.hkl
  cell := fun i ns e => ⟨⟨(hx.cell i ns e).1.ex⟩, (hx.cell i ns e).2⟩
  cellD := hx.cellD
  hp := hp
  hfn := hx.hfn
  exs := hx.exs
  stk := hx.stk
  frm := hx.frm
theorem look_mem {exs : Exs} {c : Str} {row : List (Str × Bool)} (h : exs.lookup c = some row) : (c, row) ∈ exs := by
  induction exs with
  | nil => cases h
  | cons p exs ih =>
    rw [List.lookup_cons] at h
    cases e : c == p.1 with
    | true =>
      rw [e] at h
      injection h with h
      have := eq_of_beq e
      rw [this, ← h]; exact .head _
    | false => rw [e] at h; exact .tail _ (ih h)
theorem c_raise {wf : Nat} (hx : XS X c lin W k C) {x m : Str} {j : Nat} {p p2 pos pos2 : Pos} {s : MS} (h : (if isGl c.sc x && nameOk x && (c.exs.lookup x).isSome then some (MS.raise x) else some badS) = some s) :
    PS X (.Raise (some (.Call (.Name x p) [.Constant (.str m) j p2] [] pos)) none pos2) (SRd X W lin (evS C wf s)) := by
  split at h
  · rename_i h0
    simp only [Bool.and_eq_true] at h0
    obtain ⟨⟨h1, h2⟩, h3⟩ := h0
    obtain ⟨n1, n2, n3⟩ := nameOk_of h2
    injection h with h; subst h
    obtain ⟨row, hr⟩ := Option.isSome_iff_exists.mp h3
    obtain ⟨A, hm, E⟩ := hx.exs x row hr
    exact sr_congr (st_raise hx.calm hx.tk hm E (hx.toXO.gl h1) n1) fun r => by simp only [evS]
  · injection h with h; subst h; exact st_bad
theorem evS_try {wf i : Nat} {tbl : List (Str × Bool × List (Str × Bool))} {body su : List MS} {r : En} : evS C wf (.try_ i tbl body su) r = tryF C i tbl su (evSs C wf body r) := by
  simp only [evS, tryF]
  try (cases evSs C wf body r <;> rfl)
theorem c_try {wf n : Nat} (ih : SSnd wf n) (hx : XS X c lin W k C) {body suite : List Stmt} {b₀ : Stmt} {x en : Str} {np pos pos' : Pos} {s : MS}
    (h : ((slotOf c.N en).bind fun i =>
        if isGl c.sc x && nameOk x && nameOk en && (c.exs.lookup x).isSome && (c.exs.all fun p => (p.2.lookup x).isSome) && decide (c.sc.names.lookup en = some .local) && decide (i ∉ c.lin) && decide (c.scr = none) && isGl c.sc "isinstance"
        then (cSs n c body).bind fun bm => (cH n c en i (b₀ :: suite)).map fun su => MS.try_ i (tblOf c.exs x) bm su else none) = some s) :
    PS X (.Try body [.ExceptHandler (some (.Name x np)) (some en) (b₀ :: suite) pos'] [] [] pos) (SRd X W lin (evS C wf s)) := by
  rw [Option.bind_eq_some_iff] at h
  obtain ⟨i, hi, h⟩ := h
  split at h
  · rename_i h0
    simp only [Bool.and_eq_true, decide_eq_true_eq] at h0
    obtain ⟨⟨⟨⟨⟨⟨⟨⟨g1, g2⟩, g3⟩, g4⟩, g5⟩, g6⟩, g7⟩, g8⟩, g9⟩ := h0
    obtain ⟨n1, n2, n3⟩ := nameOk_of g2
    obtain ⟨m1, m2, m3⟩ := nameOk_of g3
    simp only [Option.bind_eq_some_iff, Option.map_eq_some_iff] at h
    obtain ⟨bm, h1, su, h2, rfl⟩ := h
    obtain ⟨row0, hr0⟩ := Option.isSome_iff_exists.mp g4
    obtain ⟨A0, hm0, E0⟩ := hx.exs x row0 hr0
    have hgi := slotOf_get hi
    have hloc : X.env.scope.names.lookup en = some .local := by rw [hx.hsc]; exact g6
    have hscr : lin.scr = none := by
      have := hx.hscr
      rw [g8] at this
      cases e : lin.scr with
      | none => rfl
      | some z => rw [e] at this; cases this
    have hil : i ∉ lin.lin := by rw [hx.hlin]; exact g7
    refine sr_congr (st_try (C := C) (i := i) (su := su) (fb := evSs C wf bm) hx.stk hx.frm hx.nd (by rw [hx.hN]; exact hgi) hloc hx.tk hx.exs (hx.toXO.gl g1) n1 hm0 (fun c' row hl => List.all_eq_true.mp g5 _ (look_mem hl)) hscr hil (by rw [hx.hn]; exact (List.getElem?_eq_some_iff.mp hgi).1)
      (fun W' pn xe tk hp => ih.ss (hx.tr tk hp) body bm h1) fun a oe pn A row E hz hf => ?_) fun r => evS_try
    exact h_ok (Y := X.suite a ((a, oe) :: pn)) (c := c) (lin := linS lin i a) (i := i) (en := en) ⟨hx.nd, hx.hN, hx.hsc, hx.hlin, hx.hn, rfl, fun y p p1 p2 pos hg hy => isx_ok E hz hf (by rw [hx.hN]; exact hgi) (.inl hloc) m1 m2 (hx.toXO.gl g9) (hx.blt "isinstance" (by decide)) y p p1 p2 pos (hx.toXO.gl hg) hy⟩ _ _ h2
  · cases h
theorem s_step {wf n : Nat} (ih : SSnd wf n) (hx : XS X c lin W k C) (s : Stmt) (m : MS) (h : cS (n + 1) c s = some m) : PS X s (SRd X W lin (evS C wf m)) := by
  have ce := cSnd n
  simp only [cS] at h
  split at h
  · injection h with h; subst h; exact sr_congr st_pass fun r => by simp only [evS]
  · injection h with h; subst h; exact sr_congr st_break fun r => by simp only [evS]
  · injection h with h; subst h; exact sr_congr st_continue fun r => by simp only [evS]
  · injection h with h; subst h; exact sr_congr st_retN fun r => by simp only [evS, ev]; rfl
  · rw [Option.bind_eq_some_iff] at h
    obtain ⟨y, h1, h2⟩ := h
    have key : y.isLin = false → PS X (.Return (some ‹Expr›) ‹Pos›) (SRd X W lin (evS C wf (.ret y))) := fun hl => sr_congr (st_ret (er_false (ce.e hx.toXO _ y h1) hl)) fun r => by simp only [evS]
    split at h2
    · split at h2
      · rename_i h3
        injection h2 with h2; subst h2
        simp only [Bool.and_eq_true, decide_eq_true_eq] at h3
        obtain ⟨⟨⟨hn, hv⟩, hs⟩, hl⟩ := h3
        obtain ⟨n1, n2, n3⟩ := nameOk_of hn
        exact sr_congr (st_retL (by rw [hx.hlin]; exact hl) (by rw [hx.hN]; exact slotOf_get hs) (hx.toXO.vis hv) n1 n2) fun r => by simp only [evS, ev]
      · cases h2
    · cases h2
    · rename_i hne _
      injection h2 with h2; subst h2
      refine key ?_
      cases y with
      | lin i => exact absurd rfl (hne i)
      | _ => rfl
  · split at h
    · rename_i ht
      simp only [Option.bind_eq_some_iff, Option.map_eq_some_iff] at h
      obtain ⟨q, h1, x, h2, y, h3, rfl⟩ := h
      exact sr_congr (st_if (ce.t hx.toXO n _ q ht h1) (ih.ss hx _ x h2) (ih.ss hx _ y h3)) fun r => by simp only [evS]
    · cases h
  · split at h
    · rename_i hcl
      injection h with h; subst h
      exact cL_ok hx hcl
    split at h
    · cases h
    · rename_i hl
      rw [Option.map_eq_some_iff] at h
      obtain ⟨q, h1, rfl⟩ := h
      exact sr_congr (st_expr (ce.e hx.toXO _ q h1) (sw_no (by simpa using hl))) fun r => by simp only [evS]
  · rw [Option.bind_eq_some_iff] at h
    obtain ⟨i, h1, h⟩ := h
    split at h
    · rename_i hcm
      injection h with h; subst h
      exact cM_ok hx h1 hcm
    split at h
    · rename_i hil
      split at h
      · rename_i h2
        rw [Bool.and_eq_true, decide_eq_true_eq] at h2
        rw [Option.map_eq_some_iff] at h
        obtain ⟨q, h3, rfl⟩ := h
        obtain ⟨a1, a2⟩ := cF_ok hx.toXO h3
        have hg := slotOf_get h1
        have hloc := loc_of h2.1
        rw [← hx.hsc] at hloc
        exact sr_congr (st_setF hx.nd (by rw [hx.hN]; exact hg) (by rw [hx.hn]; exact (List.getElem?_eq_some_iff.mp hg).1) hloc (by rw [hx.hlin]; exact hil) (fun j ns e z => h2.2 (by rw [← hx.hscr, e, z]; rfl)) a1 (sw_no a2) (.inl (hx.hfn _))) fun r => by simp only [evS]
      · cases h
    split at h
    · cases h
    · rename_i h2
      rw [Bool.not_eq_true, Bool.not_eq_false'] at h2
      split at h
      · split at h
        · cases h
        · rename_i h0
          rw [Option.map_eq_some_iff] at h
          obtain ⟨q, h3, rfl⟩ := h
          exact st_setC hx h1 h2 (whole_some h3).1 h0
      · rw [Option.map_eq_some_iff] at h
        obtain ⟨q, h3, rfl⟩ := h
        obtain ⟨a1, a2⟩ := cF_ok hx.toXO h3
        obtain ⟨b1, b2, b3, b4, b5⟩ := setOk_of hx.toXO h1 h2
        exact sr_congr (st_set hx.nd b1 b3 b2 b4 b5 (er_ef a1) (sw_no a2) (.inl (hx.hfn _))) fun r => by simp only [evS]
      · split at h
        · cases h
        · rename_i h0
          rw [Option.map_eq_some_iff] at h
          obtain ⟨q, h3, rfl⟩ := h
          exact st_setE hx h1 h2 (whole_some h3).1 (whole_some h3).2 (sw_no (by simpa using h0))
  · rw [Option.bind_eq_some_iff] at h
    obtain ⟨i, h1, h⟩ := h
    split at h
    · rename_i h2
      simp only [Bool.and_eq_true, decide_eq_true_eq] at h2
      obtain ⟨⟨b1, b2⟩, b3⟩ := h2
      obtain ⟨n1, n2, n3⟩ := nameOk_of b2
      simp only [Option.bind_eq_some_iff, Option.map_eq_some_iff] at h
      obtain ⟨kq, h3, vq, h4, rfl⟩ := h
      obtain ⟨h5, h6⟩ := whole_some h4
      exact sr_congr (st_put hx.toXO.u64 (by rw [hx.hlin]; exact b1) (by rw [hx.hN]; exact slotOf_get h1) (hx.toXO.vis b3) n1 n2 (ce.e hx.toXO _ kq h3) (er_false (ce.e hx.toXO _ vq h5) h6)) fun r => by simp only [evS]
    · cases h
  · rw [Option.bind_eq_some_iff] at h
    obtain ⟨is, h1, h⟩ := h
    split at h
    · cases h
    · rename_i h2
      rw [Bool.not_eq_true, Bool.not_eq_false'] at h2
      split at h
      · rw [Option.bind_eq_some_iff] at h
        obtain ⟨o, h3, h⟩ := h
        cases o with
        | none =>
          simp only [Option.map_eq_some_iff] at h
          obtain ⟨q, h4, rfl⟩ := h
          exact st_unpE hx h1 h2 (whole_some h4).1 (whole_some h4).2 (sw_of (by rw [hx.hsc]; exact h3))
        | some names =>
          simp only at h
          split at h
          · rename_i h4
            simp only [Bool.and_eq_true, decide_eq_true_eq, Bool.or_eq_true, List.all_eq_true] at h4
            obtain ⟨⟨⟨⟨h5, h6⟩, h7⟩, h8⟩, h9⟩ := h4
            rw [Option.map_eq_some_iff] at h
            obtain ⟨ms, h10, rfl⟩ := h
            subst h7
            exact st_parE hx h1 h2 h10 h3 h5 h6 h8 h9
          · cases h
      · rename_i hnt
        rw [Option.map_eq_some_iff] at h
        obtain ⟨q, h4, rfl⟩ := h
        refine st_unpE hx h1 h2 (whole_some h4).1 (whole_some h4).2 (st_no ?_)
        rename_i e _ _
        cases e <;> first | rfl | exact absurd rfl (hnt _ _ _)
  · split at h
    · cases h
    · rename_i h0
      rw [Bool.not_eq_true, Bool.or_eq_false_iff, Bool.not_eq_false'] at h0
      simp only [Option.bind_eq_some_iff] at h
      obtain ⟨t, h1, it, h2, h⟩ := h
      split at h
      · cases h
      · rename_i hl
        rw [Option.map_eq_some_iff] at h
        obtain ⟨b, h3, rfl⟩ := h
        obtain ⟨bb, hi, hb⟩ := ce.i hx.toXO _ _ it h2
        rw [tg_isT h1] at hi
        have := hb (by simpa using hl)
        subst this
        refine sr_congr (st_for hx.hp hx.calm hi (pg_top hx h1 h0.2) (ih.ss hx _ b h3) (tgSet_of hx.toXO h1 h0.2).1 (noFold h0.1)) fun r => ?_
        simp only [evS]
        rw [toF_bind]
  · split at h
    · rename_i ht
      simp only [Option.bind_eq_some_iff, Option.map_eq_some_iff] at h
      obtain ⟨q, h1, x, h2, rfl⟩ := h
      exact sr_congr (st_while (wf := wf) hx.hp (ce.t hx.toXO n _ q ht h1) (ih.ss hx _ x h2)) fun r => by simp only [evS]
    · cases h
  · exact c_raise hx h
  · injection h with h; subst h; exact st_bad
  · exact c_try ih hx h
  · cases h
theorem sSnd (wf : Nat) : ∀ n, SSnd wf n
  | 0 => ⟨fun _ s m h => by simp [cS] at h, fun _ s m h => by simp [cSs] at h⟩
  | n + 1 => ⟨s_step (sSnd wf n), ss_step (sSnd wf n)⟩
end
end BT
set_option Elab.async false
set_option linter.all false
set_option maxRecDepth 100000
set_option maxHeartbeats 8000000
/-! BTFun: the defs of a program, by their table. -/
namespace BT
open PySem PySem.Spec PyProof.Rows L2
def scOk (N ps : List Str) (sc : Scope) : Bool :=
  (match sc.kind with | .function => true | _ => false) && !sc.isCoroutine && !sc.isGenerator && decide N.Nodup && decide (N.take ps.length = ps) && ps.all (isLoc sc) && sc.names.all fun y => match y.2 with | .free => false | _ => true
theorem scOk_of {N ps : List Str} {sc : Scope} (h : scOk N ps sc = true) : FnScope N ps sc := by
  unfold scOk at h
  simp only [Bool.and_eq_true, Bool.not_eq_true', decide_eq_true_eq, List.all_eq_true] at h
  obtain ⟨⟨⟨⟨⟨⟨h1, h2⟩, h3⟩, h4⟩, h5⟩, h6⟩, h7⟩ := h
  refine ⟨?_, h2, h3, h4, h5, fun x hx => loc_of (h6 x hx), fun y hy e => ?_⟩
  · split at h1
    · assumption
    · cases h1
  · have := h7 y hy
    rw [e] at this
    cases this
/-- a def: its name, its text, the names of its slots, what it is compiled to -/
structure FRow where
  name : Str
  st : Stmt
  N : List Str
  m : MFun
def fnsOf (rows : List FRow) : List (Str × Nat) := rows.map fun r => (r.name, r.m.params)
def tabOf (rows : List FRow) : Tab := rows.map fun r => (r.name, r.m)
def rowCC (rows : List FRow) (cons : List (Str × M)) (exs : Exs) (r : FRow) : CC := ⟨r.N, r.m.lins, none, defScope r.st, fnsOf rows, cons, exs⟩
def DEEP : Nat := 60
structure FRowOk (rows : List FRow) (cons : List (Str × M)) (exs : Exs) (r : FRow) : Prop where
  sc : scOk r.N (r.N.take r.m.params) (defScope r.st) = true
  num : (decide (r.m.params ≤ r.N.length) && decide (r.m.slots = r.N.length) && r.m.lins.all (fun i => decide (r.m.params ≤ i)) && !(r.name == ("_law_cell" : Str))) = true
  body : cSs DEEP (rowCC rows cons exs r) (defBody r.st) = some r.m.body
  bnd : ∀ (kV doc pm : Value) (an : Option Addr) (cdv ct : Value) (us : List Value), us.length = (r.N.take r.m.params).length → bindArgs (PySem.W.fnOf r.name r.name (defArgs r.st) (defBody r.st) (defScope r.st) .none kV doc pm an cdv ct) ⟨us, []⟩ = pure ((r.N.take r.m.params).zip us)
theorem lookup_row : ∀ {rows : List FRow} {f : Str} {n : Nat}, (fnsOf rows).lookup f = some n → ∃ r ∈ rows, r.name = f ∧ r.m.params = n ∧ (tabOf rows).lookup f = some r.m
  | [], f, n, h => by simp [fnsOf] at h
  | r :: rows, f, n, h => by
    by_cases e : (f == r.name) = true
    · have h1 : (fnsOf (r :: rows)).lookup f = some r.m.params := by
        show List.lookup f ((r.name, r.m.params) :: fnsOf rows) = _
        rw [List.lookup_cons, e]
      rw [h1] at h
      injection h with h
      refine ⟨r, .head _, (eq_of_beq e).symm, h, ?_⟩
      show List.lookup f ((r.name, r.m) :: tabOf rows) = _
      rw [List.lookup_cons, e]
    · rw [Bool.not_eq_true] at e
      have h1 : (fnsOf (r :: rows)).lookup f = (fnsOf rows).lookup f := by
        show List.lookup f ((r.name, r.m.params) :: fnsOf rows) = _
        rw [List.lookup_cons, e]
      rw [h1] at h
      obtain ⟨r', hm, a, b, c⟩ := lookup_row h
      refine ⟨r', .tail _ hm, a, b, ?_⟩
      show List.lookup f ((r.name, r.m) :: tabOf rows) = _
      rw [List.lookup_cons, e]
      exact c
theorem lookup_none : ∀ {rows : List FRow} {f : Str}, (∀ r ∈ rows, (r.name == f) = false) → (tabOf rows).lookup f = none
  | [], f, h => rfl
  | r :: rows, f, h => by
    show List.lookup f ((r.name, r.m) :: tabOf rows) = _
    have := h r (.head _)
    have e : (f == r.name) = false := by
      rw [beq_eq_false_iff_ne] at this ⊢
      exact fun z => this z.symm
    rw [List.lookup_cons, e]
    exact lookup_none fun r hr => h r (.tail _ hr)
section
variable {P : Program} {w : World} {K : PySem.W.Frag} {mg : Str → Option Value} {base : Heap}
/-- where a def stands -/
def DefAt (K : PySem.W.Frag) (mg : Str → Option Value) (r : FRow) : Prop := ∃ f fd, FunD K r.name r.name (defArgs r.st) (defBody r.st) (defScope r.st) [] [] f fd ∧ mg r.name = some (.ref f)
theorem start_ok {N : List Str} {m : MFun} {bd : Addr → Prop} {H : Hp} {vs : List V} {ds : List D} {kl : Addr → List V → Prop} (hb : BadIn bd H) (rs : RepL P w H bd vs ds) (hp : ds.length = m.params) (hn : m.params ≤ N.length) (hs : m.slots = N.length) (hl : ∀ i ∈ m.lins, m.params ≤ i) :
    StOk P w H bd ⟨kl, m.lins, none, N.length, false⟩ (startE m ds) (start N vs) H := by
  have hlen := rs.length
  have low : ∀ i d, (startE m ds)[i]? = some (some d) → i < ds.length ∧ ds[i]? = some d := fun i d e => by
    unfold startE at e
    by_cases hi : i < ds.length
    · rw [List.getElem?_append_left (by simpa using hi), List.getElem?_map] at e
      cases e1 : ds[i]? with
      | none => rw [e1] at e; cases e
      | some d' =>
        rw [e1] at e
        have : d' = d := by simpa using e
        exact ⟨hi, by rw [this]⟩
    · rw [List.getElem?_append_right (by simpa using hi), List.getElem?_replicate] at e
      split at e
      · cases e
      · cases e
  have nl : ∀ i d, i ∈ m.lins → ¬ (startE m ds)[i]? = some (some d) := fun i d hi e => by
    have := (low i d e).1
    have := hl i hi
    omega
  have eb : ∀ a, bdOf bd ⟨kl, m.lins, none, N.length, false⟩ (startE m ds) (start N vs) a → bd a ∨ H a = none := fun a z => by
    rcases z with z | ⟨i, d, hi, e, _⟩
    · exact .inl z
    · exact (nl i d hi e).elim
  refine ⟨Same.refl _, hb, ⟨fun i d e => ?_, fun i ns e => nomatch e⟩, fun i d hi e => (nl i d hi e).elim, fun i j d e a hi _ e1 => (nl i d hi e1).elim, ?_⟩
  · obtain ⟨h1, h2⟩ := low i d e
    obtain ⟨v, e3, r3⟩ := rs.get' h2
    refine ⟨v, ?_, RepX.of (Rep.go (Keep.of (Same.refl _)) eb _ _ r3)⟩
    unfold L2.start
    rw [List.getElem?_append_left (by rw [List.length_map, hlen]; exact h1), List.getElem?_map, e3]; rfl
  · unfold L2.start
    rw [List.length_append, List.length_map, List.length_replicate, hlen, hp]
    show _ = N.length
    omega
/-- each def keeps what its compiled text tells -/
theorem fn_fact {rows : List FRow} {cons : List (Str × M)} {exs : Exs} {r : FRow} {wf k : Nat} {nat : CallF} (hex : ExOk K mg exs) (hat : DefAt K mg r) (hok : FRowOk rows cons exs r) (hblt : ∀ x ∈ bltNames, mg x = none) (hcell : ∀ d, (∀ j, d ≠ .int j) → callN (tabOf rows) wf nat k "_law_cell" [d] = .bad)
    (hcons : ∀ x m, cons.lookup x = some m → ∃ u v d, mg x = some u ∧ RelV v u ∧ (∀ H bd, Rep P w H bd v d) ∧ m.isLin = false ∧ ∀ C r, ev C m r = .ok d)
    (htab : (tabOf rows).lookup r.name = some r.m)
    (ih : ∀ g n, (fnsOf rows).lookup g = some n → FnFact P w K mg base k g n (callN (tabOf rows) wf nat k g)) : FnFact P w K mg base (k + 1) r.name r.m.params (callN (tabOf rows) wf nat (k + 1) r.name) := by
  obtain ⟨f, fd, F, hmg⟩ := hat
  have num := hok.num
  simp only [Bool.and_eq_true, decide_eq_true_eq, List.all_eq_true, Bool.not_eq_true'] at num
  obtain ⟨⟨⟨n1, n2⟩, n3⟩, n4⟩ := num
  have S := scOk_of hok.sc
  have hpl : (r.N.take r.m.params).length = r.m.params := by rw [List.length_take]; omega
  refine ⟨f, fd, r.N.take r.m.params, hpl, hmg, F.kp, F.bindsN (ps := r.N.take r.m.params) hok.bnd, ?_⟩
  have hcall : ∀ ds, callN (tabOf rows) wf nat (k + 1) r.name ds = runF (callN (tabOf rows) wf nat k) wf r.m ds := fun ds => by
    simp only [callN, htab]
  refine F.ok S (fun vs H Q E h => by rw [hpl]; exact h.1) fun cdv A outer s H vs Q E hr hsp => ?_
  obtain ⟨hvl, bd, ds, hbd, rs, hq⟩ := hsp
  rw [hcall ds] at hq
  have hdl : ds.length = r.m.params := by rw [← rs.length]; exact hvl
  have hrun : runF (callN (tabOf rows) wf nat k) wf r.m ds = (evSs (callN (tabOf rows) wf nat k) wf r.m.body (startE r.m ds)).res := by unfold runF; rw [if_pos hdl]
  rw [hrun] at hq
  let X := cxOf (L2.CX P w) P w K mg base r.N r.name (defScope r.st) f cdv A outer s H E
  let W : WishX := fun c _ H' => ∀ cv, mg c = some cv → E cv none H'
  let lin : Lc := ⟨fun _ _ => False, r.m.lins, none, r.N.length, false⟩
  have hx : XS X (rowCC rows cons exs r) lin W k (callN (tabOf rows) wf nat k) :=
    { calm := rfl
      room := hr
      nd := S.nd
      hN := rfl
      hsc := rfl
      tk := (takes_of (X := X) (E := E) rfl rfl rfl rfl).imp fun c d σ H' h => by
        obtain ⟨rfl, c', e1, h1⟩ := h
        exact h1 c e1
      fns := fun g n hg => ih g n hg
      blt := hblt
      cons := hcons
      hlin := rfl
      hn := rfl
      hscr := rfl
      hkl := fun _ _ _ z => z.elim
      cell := fun i ns e => nomatch e
      cellD := hcell
      hp := passes_of (X := X) rfl
      hfn := fun _ => rfl
      exs := hex
      stk := rfl
      frm := rfl }
  refine ⟨_, (sSnd wf DEEP).ss hx (defBody r.st) r.m.body hok.body, H, bd, startE r.m ds, start_ok hbd rs hdl n1 n2 n3, ?_⟩
  revert hq
  cases evSs (callN (tabOf rows) wf nat k) wf r.m.body (startE r.m ds) with
  | nx r' => exact fun hq σ' H' ok => hq .non H' ok.same .non
  | rt d => exact fun hq v H' s1 rv => hq v H' s1 rv
  | bk r' => exact fun hq => hq.elim
  | ct r' => exact fun hq => hq.elim
  | exc c r' => exact fun hq σ' H' ok cv e => hq H' ok.same cv e
  | bad => exact fun hq => hq
theorem fn_zero {x : Str} {n : Nat} {f : Addr} {fd : FuncData} {ps : List Str} {g : List D → R D} (hg : ∀ ds, g ds = .bad) : FnOk P w K mg base (L2.CX P w) 0 f fd ps (spF P w mg n g) :=
  ⟨fun vs H Q E h => by obtain ⟨_, bd, ds, _, _, q⟩ := h; rw [hg ds] at q; exact q.elim, fun A outer s H args us vs Q E _ _ _ _ h => by obtain ⟨_, bd, ds, _, _, q⟩ := h; rw [hg ds] at q; exact q.elim⟩
theorem fn_facts {rows : List FRow} {cons : List (Str × M)} {exs : Exs} {wf : Nat} {nat : CallF} (hex : ExOk K mg exs) (hat : ∀ r ∈ rows, DefAt K mg r) (hok : ∀ r ∈ rows, FRowOk rows cons exs r) (hblt : ∀ x ∈ bltNames, mg x = none) (hnat : ∀ d, (∀ j, d ≠ .int j) → nat "_law_cell" [d] = .bad)
    (hcons : ∀ x m, cons.lookup x = some m → ∃ u v d, mg x = some u ∧ RelV v u ∧ (∀ H bd, Rep P w H bd v d) ∧ m.isLin = false ∧ ∀ C r, ev C m r = .ok d) :
    ∀ k f n, (fnsOf rows).lookup f = some n → FnFact P w K mg base k f n (callN (tabOf rows) wf nat k f)
  | 0, f, n, h => by
    obtain ⟨r, hr, e1, e2, _⟩ := lookup_row h
    obtain ⟨fa, fd, F, hmg⟩ := hat r hr
    subst e1 e2
    have num := (hok r hr).num
    simp only [Bool.and_eq_true, decide_eq_true_eq] at num
    have hpl : (r.N.take r.m.params).length = r.m.params := by rw [List.length_take]; have := num.1.1.1; omega
    exact ⟨fa, fd, r.N.take r.m.params, hpl, hmg, F.kp, F.bindsN (ps := r.N.take r.m.params) (hok r hr).bnd, fn_zero (x := r.name) fun _ => rfl⟩
  | k + 1, f, n, h => by
    obtain ⟨r, hr, e1, e2, e3⟩ := lookup_row h
    subst e1 e2
    refine fn_fact hex (hat r hr) (hok r hr) hblt (fun d hd => ?_) hcons e3 fun g m hg => fn_facts hex hat hok hblt hnat hcons k g m hg
    cases k with
    | zero => rfl
    | succ k =>
      have : (tabOf rows).lookup ("_law_cell" : Str) = none := lookup_none fun r hr => by
        have num := (hok r hr).num
        simp only [Bool.and_eq_true, Bool.not_eq_true'] at num
        exact num.2
      simp only [callN, this]
      exact hnat d hd
end
end BT
set_option Elab.async false
set_option linter.all false
set_option maxRecDepth 100000
set_option maxHeartbeats 8000000
/-! BTLaw: the law itself, and the end. -/
namespace BT
open PySem PySem.Spec PyProof.Rows L2
def lawCC (rows : List FRow) (cons : List (Str × M)) (exs : Exs) (r : FRow) : CC := ⟨r.N, r.m.lins, some 0, defScope r.st, fnsOf rows, cons, exs⟩
structure LRowOk (rows : List FRow) (cons : List (Str × M)) (exs : Exs) (r : FRow) : Prop where
  sc : scOk r.N ["script"] (defScope r.st) = true
  num : (decide (1 ≤ r.N.length) && decide (r.m.slots = r.N.length)) = true
  body : cSs DEEP (lawCC rows cons exs r) (defBody r.st) = some r.m.body
def lawRes (rows : List FRow) (r : FRow) (wf k : Nat) (ns : List Int) : R D := (evSs (callN (tabOf rows) wf (cellN ns) k) wf r.m.body (List.replicate r.m.slots none)).res
def spLaw (K : PySem.W.Frag) (res : List Int → R D) : Sp := fun vs H Q _ => ∃ a ns, vs = [.ref a] ∧ Only H ∧ SqL K H a (ns.map V.int) ∧ res ns = .ok (.bool true) ∧ ∀ H', Q (.bl true) H'
section
variable {P : Program} {w : World} {K : PySem.W.Frag} {mg : Str → Option Value} {base : Heap}
theorem cell_fact {f : Addr} {fd : FuncData} {pa : Arguments} {bd : List Stmt} {sc : Scope} {p1 p2 p3 p4 p5 p6 p7 p8 p9 p10 p11 p12 : Pos} {k0 k : Nat} (F : FunD K "_law_cell" "_law_cell" pa bd sc [] [] f fd) (hs : scOk ["script", "k"] ["script", "k"] sc = true) (hl : isGl sc "len" = true)
    (hb : bd = cellBody p1 p2 p3 p4 p5 p6 p7 p8 p9 p10 p11 p12 k0) (mL : mg "len" = none) : FnOk P w K mg base (L2.CX P w) (k + 1) f fd ["script", "k"] (spCell K) := by
  have S := scOk_of hs
  have hl' : sc.names.lookup ("len" : Str) = some .globalImplicit := by
    unfold isGl at hl
    split at hl
    · assumption
    · cases hl
  have vis : ∀ x, x ∈ (["script", "k"] : List Str) → Vis sc x := fun x hx => by
    rcases S.par x hx with q | q
    · exact .inl q
    · exact .inr (.inl q)
  refine F.ok S (fun vs H Q E h => ?_) fun cdv A outer s H vs Q E hr h => ⟨tCell K, ?_, cell_run h⟩
  · obtain ⟨l, ns, j, rfl, _⟩ := h
    rfl
  · rw [hb]
    exact pss_cell rfl rfl (vis _ (.head _)) (vis _ (.tail _ (.head _))) hl' mL
theorem law_fn {rows : List FRow} {cons : List (Str × M)} {exs : Exs} {r : FRow} {wf k : Nat} {f fc : Addr} {fd fdc : FuncData} {pa : Arguments} {bdc : List Stmt} {scc : Scope} {p1 p2 p3 p4 p5 p6 p7 p8 p9 p10 p11 p12 : Pos} {k0 : Nat}
    (hex : ExOk K mg exs) (hat : ∀ r ∈ rows, DefAt K mg r) (hok : ∀ r ∈ rows, FRowOk rows cons exs r) (hblt : ∀ x ∈ bltNames, mg x = none)
    (hcons : ∀ x m, cons.lookup x = some m → ∃ u v d, mg x = some u ∧ RelV v u ∧ (∀ H bd, Rep P w H bd v d) ∧ m.isLin = false ∧ ∀ C r, ev C m r = .ok d)
    (F : FunD K "law" "law" (defArgs r.st) (defBody r.st) (defScope r.st) [] [] f fd) (hl : LRowOk rows cons exs r)
    (FC : FunD K "_law_cell" "_law_cell" pa bdc scc [] [] fc fdc) (hs : scOk ["script", "k"] ["script", "k"] scc = true) (hgl : isGl scc "len" = true) (hb : bdc = cellBody p1 p2 p3 p4 p5 p6 p7 p8 p9 p10 p11 p12 k0) (hmc : mg "_law_cell" = some (.ref fc))
    (hbc : ∀ (kV doc pm : Value) (an : Option Addr) (cdv ct : Value) (us : List Value), us.length = 2 → bindArgs (PySem.W.fnOf "_law_cell" "_law_cell" pa bdc scc .none kV doc pm an cdv ct) ⟨us, []⟩ = pure ((["script", "k"] : List Str).zip us)) :
    FnOk P w K mg base (L2.CX P w) (k + 2) f fd ["script"] (spLaw K (lawRes rows r wf (k + 1))) := by
  have S := scOk_of hl.sc
  have num := hl.num
  simp only [Bool.and_eq_true, decide_eq_true_eq] at num
  obtain ⟨n1, n2⟩ := num
  refine F.ok S (fun vs H Q E h => by obtain ⟨a, ns, rfl, _⟩ := h; rfl) fun cdv A outer s H vs Q E hr hsp => ?_
  obtain ⟨a, ns, rfl, hO, hS, hres, hq⟩ := hsp
  have hcN : (tabOf rows).lookup ("_law_cell" : Str) = none := lookup_none fun r hr => by
    have num := (hok r hr).num
    simp only [Bool.and_eq_true, Bool.not_eq_true'] at num
    exact num.2
  have hnat : ∀ d, (∀ j, d ≠ .int j) → cellN ns "_law_cell" [d] = .bad := fun d hd => by
    unfold cellN
    rw [if_pos rfl]
    cases d with
    | int j => exact absurd rfl (hd j)
    | _ => rfl
  let X := cxOf (L2.CX P w) P w K mg base r.N "law" (defScope r.st) f cdv A outer s H E
  let W : WishX := fun _ _ _ => False
  let lin : Lc := ⟨fun b xs => ∀ H, SqL K H b xs, r.m.lins, some (0, ns), r.N.length, false⟩
  have hx : XS X (lawCC rows cons exs r) lin W (k + 1) (callN (tabOf rows) wf (cellN ns) (k + 1)) :=
    { calm := rfl
      room := hr
      nd := S.nd
      hN := rfl
      hsc := rfl
      tk := takesF
      fns := fun g n hg => fn_facts hex hat hok hblt hnat hcons (k + 1) g n hg
      blt := hblt
      cons := hcons
      hlin := rfl
      hn := rfl
      hscr := rfl
      hkl := fun H b xs z => z H
      cell := fun i ms e => by
        cases e
        refine ⟨⟨fc, fdc, ["script", "k"], rfl, hmc, FC.kp, FC.bindsN (ps := ["script", "k"]) hbc, ?_⟩, fun j => ?_⟩
        · refine (cell_fact (k := k) FC hs hgl hb (hblt "len" (by decide))).imp fun vs H Q E h => ?_
          obtain ⟨b, i, rfl, h1, h2, h3⟩ := h
          refine ⟨b, ns, i.toNat, ?_, h1, h3⟩
          rw [Int.toNat_of_nonneg h2]
        · simp only [callN, hcN]
          unfold cellN
          rw [if_pos rfl]
      cellD := fun d hd => by
        simp only [callN, hcN]
        exact hnat d hd
      hp := passes_of (X := X) rfl
      hfn := fun _ => rfl
      exs := hex
      stk := rfl
      frm := rfl }
  have noV : ∀ i d, ¬ (List.replicate r.m.slots (none : Option D))[i]? = some (some d) := fun i d e => by
    rw [List.getElem?_replicate] at e
    split at e
    · cases e
    · cases e
  have hst : StOk P w H (fun _ => False) lin (List.replicate r.m.slots none) (L2.start r.N [V.ref a]) H := by
    refine ⟨Same.refl _, fun _ z => z.elim, ⟨fun i d e => (noV i d e).elim, fun i ms e => ?_⟩, fun i d _ e => (noV i d e).elim, fun i j d e a _ _ e1 => (noV i d e1).elim, ?_⟩
    · cases e
      rcases hS with (h | ⟨o, h⟩) | h
      · rcases hO a with z | ⟨o, xs, z⟩
        · rw [z] at h; cases h
        · rw [z] at h; cases h
      · exact ⟨a, o, rfl, .inr ⟨rfl, h⟩⟩
      · exact ⟨a, default, rfl, .inl fun H => .inr h⟩
    · unfold L2.start
      rw [List.length_append, List.length_map, List.length_replicate]
      show 1 + (r.N.length - 1) = r.N.length
      omega
  refine ⟨_, (sSnd wf DEEP).ss hx (defBody r.st) r.m.body hl.body, H, fun _ => False, List.replicate r.m.slots none, hst, ?_⟩
  unfold lawRes at hres
  revert hres
  cases evSs (callN (tabOf rows) wf (cellN ns) (k + 1)) wf r.m.body (List.replicate r.m.slots none) with
  | nx r' => exact fun hres => by cases hres
  | rt d =>
    intro hres v H' s1 rv
    injection hres with hres
    subst hres
    have : v = .bl true := (RepT.of rv).blI
    subst this
    exact hq H'
  | bk r' => exact fun hres => by cases hres
  | ct r' => exact fun hres => by cases hres
  | exc c r' => exact fun hres => by cases hres
  | bad => exact fun hres => by cases hres
end
/-- the end, for defs that may raise -/
theorem walk_end {l : PySem.W.OpenLaw} {n k : Nat} {q : Program} {loose : List Str} {XP : (Str → Option Value) → Heap → Prop} {YP : World → Heap → Prop} {d : DefRec} {x : Str}
    (most : l.most = some n) (few : n ≤ sizeLine) (nodef : d.params.defaults = []) (room : Room k callerA)
    (tell : ∀ (w : World) (mg : Str → Option Value) (a0 : Addr) (h : Heap), YP w h → h.Ns mainGlobals mg → mg d.name = some (.ref a0) →
      ∃ (K : PySem.W.Frag) (fd : FuncData) (sp : Sp), K.In h ∧ (∀ (s : Shared) (u : Value), BindsTo s fd ⟨[u], []⟩ [(x, u)]) ∧
        (∀ (H : Hp) (a : Addr) (ns : List Int), ns.length ≤ n → Only H → SqL K H a (ns.map V.int) → sp [.ref a] H (fun v _ => v = .bl true) fun _ _ _ => False) ∧
        ∀ base : Heap, K.In base → base.Ns mainGlobals mg → FnOk l.prog w K mg base (L2.CX l.prog w) k a0 fd [x] sp) :
    PySem.W.WalkO q loose XP YP l.row.toRowW d [] (fun g vs => PySem.call g vs) := by
  refine Att.attach_call most nodef fun w s₀ s1 mg mb a0 o pm cd doc a vs ns G Y ho hd hcd hmg hobj hin hlen hgen => ?_
  obtain ⟨K, fd, sp, inK, bind, keeps, ok⟩ := tell w mg a0 _ Y G.T.g hmg
  refine law_call inK G.T.g G.T.b G.T.builtins G.T.nolimit hgen hobj hin (Nat.le_trans hlen few) room ok bind (fun H o1 o2 => keeps H a ns hlen o1 o2) fun H e s' z => ?_
  obtain ⟨_, _, _, _, _, _, _, _, _, _, _, _, y⟩ := z
  exact y.elim
end BT
set_option Elab.async false
set_option linter.all false
set_option maxRecDepth 100000
set_option maxHeartbeats 4000000
/-! BTHk: the head's hook, with the classes of errors. -/
namespace BT
open PySem PySem.Spec PyProof.Rows L2
def rowB (K : PySem.W.Frag) (A : Addr) (q : Str × Bool) : Bool := match PySem.W.nsIn K mainGlobals q.1 with
  | some (some (.ref B)) => decide (PySem.W.kitOne K (.ref A) (.ref B) = some q.2) && decide (PySem.W.exmOne K (.ref A) (.ref B) = some q.2)
  | some none => (match bootBuiltins q.1 with
    | some (.type T) => decide (PySem.W.kitOne K (.ref A) (.type T) = some q.2) && decide (PySem.W.exmOne K (.ref A) (.type T) = some q.2)
    | _ => false)
  | _ => false
def clsB (K : PySem.W.Frag) (A : Addr) : Bool :=
  decide (PySem.W.findIn K (.ref A) "__getattribute__" = some (some (.builtin "BaseException.__getattribute__"))) && decide (PySem.W.findIn K (.ref A) "__getattr__" = some none) && decide (PySem.W.subIn K (.ref A) (.type "BaseException") = some true) &&
  PySem.W.hasDictIn K A && decide (PySem.W.findIn K (.ref A) "__class__" = some (some (.builtin "object.__class__"))) && decide (PySem.W.specialIn K (.builtin "object.__class__") "__get__" = some (some (.builtin "getset_descriptor.__get__"))) &&
  decide (PySem.W.takesIn K (.builtin "object.__class__") = some true) && decide (PySem.W.mroIn K A (.type "object") = some true)
def exB (K : PySem.W.Frag) (p : Str × List (Str × Bool)) : Bool := match PySem.W.nsIn K mainGlobals p.1 with
  | some (some (.ref A)) => PySem.W.excIn K A He.veBase "ValueError.__new__" && PySem.W.keepIn K (.ref A) && decide (PySem.W.subIn K (.ref A) (.type "BaseException") = some true) && decide (PySem.W.typeIn K (.ref A) = some (.type "type")) && clsB K A && p.2.all (rowB K A)
  | _ => false
def exsB (exs : Exs) (K : PySem.W.Frag) : Bool := exs.all (exB K)
section
variable {K : PySem.W.Frag} {h : Heap} {mg : Str → Option Value}
theorem look_memB {row : List (Str × Bool)} {y : Str} {b : Bool} (h : row.lookup y = some b) : (y, b) ∈ row := by
  induction row with
  | nil => cases h
  | cons p row ih =>
    rw [List.lookup_cons] at h
    cases e : y == p.1 with
    | true =>
      rw [e] at h
      injection h with h
      have := eq_of_beq e
      rw [this, ← h]; exact .head _
    | false => rw [e] at h; exact .tail _ (ih h)
theorem rowB_ok (X : K.In h) (G : h.Ns mainGlobals mg) {A : Addr} {y : Str} {b : Bool} (c : rowB K A (y, b) = true) :
    ∃ cv, ((mg y = some cv ∧ ∃ B, cv = .ref B) ∨ (mg y = none ∧ bootBuiltins y = some cv ∧ ∃ T, cv = .type T)) ∧ PySem.W.kitOne K (.ref A) cv = some b ∧ PySem.W.exmOne K (.ref A) cv = some b := by
  unfold rowB at c
  split at c
  · rename_i B e
    rw [Bool.and_eq_true, decide_eq_true_eq, decide_eq_true_eq] at c
    exact ⟨.ref B, .inl ⟨PySem.W.mg_of X G e, B, rfl⟩, c.1, c.2⟩
  · rename_i e
    split at c
    · rename_i T e2
      rw [Bool.and_eq_true, decide_eq_true_eq, decide_eq_true_eq] at c
      exact ⟨.type T, .inr ⟨PySem.W.mg_none_of X G e, e2, T, rfl⟩, c.1, c.2⟩
    · cases c
  · cases c
theorem clsB_ok {A : Addr} (c : clsB K A = true) : ExcC K A := by
  unfold clsB at c
  simp only [Bool.and_eq_true, decide_eq_true_eq] at c
  obtain ⟨⟨⟨⟨⟨⟨⟨c1, c2⟩, c3⟩, c4⟩, c5⟩, c6⟩, c7⟩, c8⟩ := c
  exact ⟨c1, c2, c3, c4, c5, c6, c7, c8⟩
theorem exs_ok (X : K.In h) (G : h.Ns mainGlobals mg) {exs : Exs} (c : exsB exs K = true) : ExOk K mg exs := fun x row hl => by
  have c := List.all_eq_true.mp c (x, row) (look_mem hl)
  unfold exB at c
  split at c
  · rename_i A e
    simp only [Bool.and_eq_true, decide_eq_true_eq, List.all_eq_true] at c
    obtain ⟨⟨⟨⟨⟨c1, c2⟩, c3⟩, c4⟩, c5⟩, c6⟩ := c
    exact ⟨A, PySem.W.mg_of X G e, c1, c2, c3, c4, clsB_ok c5, fun y b hy => rowB_ok X G (c6 (y, b) (look_memB hy))⟩
  · cases c
end
def obX (n : Nat) (fa : List He.Fa) (fn : List He.DefD) (exs : Exs) (g : Addr → Option Obj) : He.AlD × Bool := (He.obsDG n fa fn g, exsB exs (He.frG g (He.asD g n)))
def hookX (n : Nat) (fa : List He.Fa) (fn : List He.DefD) (exs : Exs) : PySem.W.Hook where
  α := He.AlD × Bool
  obs := fun s => obX n fa fn exs s.heap.get?
  val := fun _ => (He.valD fn, true)
  says := fun _ h => ∃ K : PySem.W.Frag, K.In h ∧ He.SaysD fa fn K ∧ exsB exs K = true
  of := fun _ _ e => ⟨_, He.frG_in, congrArg Prod.fst e, congrArg Prod.snd e⟩
  keeps := fun _ _ _ ⟨K, hK, c⟩ k => ⟨K, PySem.W.Frag.In.keeps hK k, c⟩
theorem obX_eq {n : Nat} {fa : List He.Fa} {fn : List He.DefD} {exs : Exs} {g : Addr → Option Obj} {s : Shared} (h : ∀ a, g a = s.heap.get? a) : obX n fa fn exs g = (hookX n fa fn exs).obs s := by
  have e : g = s.heap.get? := funext h
  rw [e]; rfl
end BT
set_option Elab.async false
set_option linter.all false
set_option maxRecDepth 100000
set_option maxHeartbeats 4000000
/-! BTP: plain laws of the evaluator, for use in the laws' own proofs. -/
namespace BT
open PySem
theorem callN_at {T : Tab} {wf k : Nat} {nat : CallF} {f : Str} {m : MFun} (h : T.lookup f = some m) (ds : List D) : callN T wf nat (k + 1) f ds = runF (callN T wf nat k) wf m ds := by
  simp only [callN, h]
@[simp] theorem get_z {r : En} {d : D} : get (some d :: r) 0 = .ok d := rfl
@[simp] theorem get_s {r : En} {x : Option D} {n : Nat} : get (x :: r) (n + 1) = get r n := rfl
@[simp] theorem put_z {r : En} {x : Option D} {d : D} : put (x :: r) 0 d = some d :: r := rfl
@[simp] theorem put_s {r : En} {x : Option D} {d : D} {n : Nat} : put (x :: r) (n + 1) d = x :: put r n d := rfl
@[simp] theorem gd_true {α : Type} {x : R α} : R.gd true x = x := rfl
@[simp] theorem gd_false {α : Type} {x : R α} : R.gd false x = .bad := rfl
@[simp] theorem ofO_some {α : Type} {x : α} : R.ofO (some x) = .ok x := rfl
@[simp] theorem ofO_none {α : Type} : (R.ofO none : R α) = .bad := rfl
@[simp] theorem wipeE_n {r : En} : wipeE r [] = r := rfl
@[simp] theorem wipeE_c {r : En} {v : Nat} {vs : List Nat} : wipeE r (v :: vs) = (wipeE r vs).set v none := rfl
@[simp] theorem ev_var {C : CallF} {i : Nat} {r : En} : ev C (.var i) r = (get r i) := by simp only [ev]
@[simp] theorem ev_lin {C : CallF} {i : Nat} {r : En} : ev C (.lin i) r = (get r i) := by simp only [ev]
@[simp] theorem ev_non {C : CallF}  {r : En} : ev C (.non) r = (.ok .none) := by simp only [ev]
@[simp] theorem ev_bl {C : CallF} {b : Bool} {r : En} : ev C (.bl b) r = (.ok (.bool b)) := by simp only [ev]
@[simp] theorem ev_int {C : CallF} {i : Int} {r : En} : ev C (.int i) r = (.ok (.int i)) := by simp only [ev]
@[simp] theorem ev_str {C : CallF} {x : Str} {r : En} : ev C (.str x) r = (.ok (.str x)) := by simp only [ev]
@[simp] theorem ev_tup {C : CallF} {es : List M} {r : En} : ev C (.tup es) r = ((evs C es r).bind fun ds => .ok (.tuple ds)) := by simp only [ev]
@[simp] theorem ev_lst {C : CallF} {es : List M} {r : En} : ev C (.lst es) r = ((evs C es r).bind fun ds => .ok (.list ds)) := by simp only [ev]
@[simp] theorem ev_bin {C : CallF} {op : Bop} {a b : M} {r : En} : ev C (.bin op a b) r = ((ev C a r).bind fun x => (ev C b r).bind fun y => binF op x y) := by simp only [ev]
@[simp] theorem ev_nt {C : CallF} {a : M} {r : En} : ev C (.nt a) r = ((ev C a r).bind fun x => (tst x).bind fun k => .ok (.bool (!k))) := by simp only [ev]
@[simp] theorem ev_and {C : CallF} {a b : M} {r : En} : ev C (.and a b) r = ((ev C a r).bind fun x => (tst x).bind fun k => if k then ev C b r else .ok x) := by simp only [ev]
@[simp] theorem ev_or {C : CallF} {a b : M} {r : En} : ev C (.or a b) r = ((ev C a r).bind fun x => (tst x).bind fun k => if k then .ok x else ev C b r) := by simp only [ev]
@[simp] theorem ev_ife {C : CallF} {c a b : M} {r : En} : ev C (.ife c a b) r = (((ev C c r).bind tst).bind fun k => if k then ev C a r else ev C b r) := by simp only [ev]
@[simp] theorem ev_cmp {C : CallF} {op : Cop} {a b : M} {r : En} : ev C (.cmp op a b) r = ((ev C a r).bind fun x => (ev C b r).bind fun y => (cmpF op x y).bind fun k => .ok (.bool k)) := by simp only [ev]
@[simp] theorem ev_chain {C : CallF} {o1 o2 : Cop} {a b c : M} {r : En} : ev C (.chain o1 o2 a b c) r = ((ev C a r).bind fun x => (ev C b r).bind fun y => (cmpF o1 x y).bind fun k => if k then (ev C c r).bind fun z => (cmpF o2 y z).bind fun k => .ok (.bool k) else .ok (.bool false)) := by simp only [ev]
@[simp] theorem ev_call {C : CallF} {f : Str} {es : List M} {r : En} : ev C (.call f es) r = ((evs C es r).bind fun ds => C f ds) := by simp only [ev]
@[simp] theorem ev_blt {C : CallF} {b : Blt} {es : List M} {r : En} : ev C (.blt b es) r = ((evs C es r).bind fun ds => bltF b ds) := by simp only [ev]
@[simp] theorem ev_mth {C : CallF} {b : Blt} {o : M} {es : List M} {r : En} : ev C (.mth b o es) r = ((ev C o r).bind fun d => (evs C es r).calm.bind fun ds => bltF b (d :: ds)) := by simp only [ev]
@[simp] theorem ev_isi {C : CallF} {a : M} {ts : List Ty} {r : En} : ev C (.isi a ts) r = ((ev C a r).bind fun x => isiF x ts) := by simp only [ev]
@[simp] theorem ev_idx {C : CallF} {a i : M} {r : En} : ev C (.idx a i) r = ((ev C a r).bind fun x => (ev C i r).bind fun y => idxF x y) := by simp only [ev]
@[simp] theorem ev_slc {C : CallF} {a lo hi : M} {r : En} : ev C (.slc a lo hi) r = ((ev C a r).bind fun x => (if lo.absent then .ok none else (ev C lo r).bind toI).bind fun l => (if hi.absent then .ok none else (ev C hi r).bind toI).bind fun h => slcF x l h) := by simp only [ev]
@[simp] theorem ev_rev {C : CallF} {a : M} {r : En} : ev C (.rev a) r = ((ev C a r).bind fun x => revF x) := by simp only [ev]
@[simp] theorem ev_lc {C : CallF} {own : List Nat} {tg : Tg} {ik : ItK} {its : List M} {cond elt : M} {r : En} : ev C (.lc own tg ik its cond elt) r = ((evs C its r).bind fun ds => (itemsF ik ds).bind fun xs => (lcN (fun x => (asg tg x (wipeE r own)).bind fun r1 => ((ev C cond r1).bind tst).bind fun k => if k then (ev C elt r1).bind fun y => .ok (some y) else .ok none) xs).bind fun ys => .ok (.list ys)) := by simp only [ev]
@[simp] theorem ev_dnew {C : CallF}  {r : En} : ev C (.dnew) r = (.ok (.dict [])) := by simp only [ev]
@[simp] theorem ev_ddisp {C : CallF} {k v : M} {r : En} : ev C (.ddisp k v) r = ((ev C k r).bind fun x => (ev C v r).bind fun y => .gd (isTupD x && keyFits [] x) (.ok (.dict [(x, y)]))) := by simp only [ev]
@[simp] theorem ev_negI {C : CallF} {i : Int} {r : En} : ev C (.neg (.int i)) r = .ok (.int (-i)) := by simp only [ev, R.bind_ok]
@[simp] theorem evs_n {C : CallF} {r : En} : evs C [] r = .ok [] := by simp only [evs]
@[simp] theorem evs_c {C : CallF} {e : M} {es : List M} {r : En} : evs C (e :: es) r = ((ev C e r).bind fun d => (evs C es r).bind fun ds => .ok (d :: ds)) := by simp only [evs]
@[simp] theorem eS_set {C : CallF} {wf : Nat} {i : Nat} {e : M} {r : En} : evS C wf (.set i e) r = ((ev C e r).toF r fun d => .nx (put r i d)) := by simp only [evS]
@[simp] theorem eS_setL {C : CallF} {wf : Nat} {i : Nat} {e : M} {r : En} : evS C wf (.setL i e) r = ((ev C e r).toF r fun d => .nx (put r i d)) := by simp only [evS]
@[simp] theorem eS_mv {C : CallF} {wf : Nat} {j i : Nat} {r : En} : evS C wf (.mv j i) r = ((get r i).toF r fun d => .nx (put (drop r i) j d)) := by simp only [evS]
@[simp] theorem eS_unp {C : CallF} {wf : Nat} {is : List Nat} {e : M} {r : En} : evS C wf (.unp is e) r = ((ev C e r).toF r fun d => (asg (.tup is) d r).toF r fun r1 => .nx r1) := by simp only [evS]
@[simp] theorem eS_par {C : CallF} {wf : Nat} {is : List Nat} {es : List M} {r : En} : evS C wf (.par is es) r = ((evs C es r).toF r fun ds => if is.length = ds.length then .nx (putAll is ds r) else .bad) := by simp only [evS]
@[simp] theorem eS_put {C : CallF} {wf : Nat} {i : Nat} {k v : M} {r : En} : evS C wf (.put i k v) r = ((ev C v r).toF r fun v => (get r i).toF r fun x => (ev C k r).toF r fun k => (putF x k v).toF r fun y => .nx (put r i y)) := by simp only [evS]
@[simp] theorem eS_exprS {C : CallF} {wf : Nat} {e : M} {r : En} : evS C wf (.exprS e) r = ((ev C e r).toF r fun _ => .nx r) := by simp only [evS]
@[simp] theorem eS_ret {C : CallF} {wf : Nat} {e : M} {r : En} : evS C wf (.ret e) r = ((ev C e r).toF r fun d => .rt d) := by simp only [evS]
@[simp] theorem eS_iff {C : CallF} {wf : Nat} {c : M} {a b : List MS} {r : En} : evS C wf (.iff c a b) r = (((ev C c r).bind tst).toF r fun k => if k then evSs C wf a r else evSs C wf b r) := by simp only [evS]
@[simp] theorem eS_for_ {C : CallF} {wf : Nat} {tg : Tg} {ik : ItK} {its : List M} {body : List MS} {r : En} : evS C wf (.for_ tg ik its body) r = ((evs C its r).toF r fun ds => (itemsF ik ds).toF r fun xs => forN tg (fun r1 => evSs C wf body r1) xs r) := by simp only [evS]
@[simp] theorem eS_while_ {C : CallF} {wf : Nat} {c : M} {body : List MS} {r : En} : evS C wf (.while_ c body) r = (whileN (fun r1 => (ev C c r1).bind tst) (fun r1 => evSs C wf body r1) wf r) := by simp only [evS]
@[simp] theorem eS_brk {C : CallF} {wf : Nat}  {r : En} : evS C wf (.brk) r = (.bk r) := by simp only [evS]
@[simp] theorem eS_cont {C : CallF} {wf : Nat}  {r : En} : evS C wf (.cont) r = (.ct r) := by simp only [evS]
@[simp] theorem eS_pass {C : CallF} {wf : Nat}  {r : En} : evS C wf (.pass) r = (.nx r) := by simp only [evS]
@[simp] theorem eS_raise {C : CallF} {wf : Nat} {c : Str} {r : En} : evS C wf (.raise c) r = (.exc c r) := by simp only [evS]
theorem eS_try_ {C : CallF} {wf i : Nat} {tbl : List (Str × Bool × List (Str × Bool))} {body su : List MS} {r : En} : evS C wf (.try_ i tbl body su) r = tryF C i tbl su (evSs C wf body r) := evS_try
theorem eS_app {C : CallF} {wf i : Nat} {e : M} {r : En} {xs : List D} (h : get r i = .ok (.list xs)) : evS C wf (.app i e) r = ((ev C e r).toF r fun d => if xs.length < LIM then .nx (put r i (.list (xs ++ [d]))) else .bad) := by
  simp only [evS, h, R.toF_ok]
theorem eS_ext {C : CallF} {wf i : Nat} {e : M} {r : En} {xs ys : List D} (h : get r i = .ok (.list xs)) (h2 : ev C e r = .ok (.list ys)) : evS C wf (.ext i e) r = if xs.length + ys.length ≤ LIM then .nx (put r i (.list (xs ++ ys))) else .bad := by
  simp only [evS, h, h2, R.toF_ok]
theorem eS_pop {C : CallF} {wf i j : Nat} {r : En} {xs : List D} {z : D} (h : get r i = .ok (.list (xs ++ [z]))) : evS C wf (.popTo j i) r = .nx (put (put r i (.list xs)) j z) := by
  simp only [evS, h, R.toF_ok, List.getLast?_append, List.getLast?_singleton, List.dropLast_concat]
  rfl
theorem eS_pop0 {C : CallF} {wf i j : Nat} {r : En} {zs : List D} {z : D} (h : get r i = .ok (.list (z :: zs))) : evS C wf (.pop0 j i) r = .nx (put (put r i (.list zs)) j z) := by
  simp only [evS, h, R.toF_ok]
@[simp] theorem drop_z {r : En} {x : Option D} : drop (x :: r) 0 = none :: r := rfl
@[simp] theorem drop_s {r : En} {x : Option D} {n : Nat} : drop (x :: r) (n + 1) = x :: drop r n := rfl
@[simp] theorem eSs_n {C : CallF} {wf : Nat} {r : En} : evSs C wf [] r = .nx r := by simp only [evSs]
@[simp] theorem eSs_c {C : CallF} {wf : Nat} {s : MS} {ss : List MS} {r : En} : evSs C wf (s :: ss) r = ((evS C wf s r).then fun r1 => evSs C wf ss r1) := by simp only [evSs]
@[simp] theorem res_nx {r : En} : (F.nx r).res = .ok .none := rfl
@[simp] theorem res_rt {d : D} : (F.rt d).res = .ok d := rfl
@[simp] theorem res_exc {c : Str} {r : En} : (F.exc c r).res = .exc c := rfl
@[simp] theorem res_bad : F.bad.res = .bad := rfl
@[simp] theorem asg_name {i : Nat} {d : D} {r : En} : asg (.name i) d r = .ok (put r i d) := rfl
theorem asg_tup {is : List Nat} {ds : List D} {r : En} (h : is.length = ds.length) : asg (.tup is) (.tuple ds) r = .ok (putAll is ds r) := by simp [asg, h]
@[simp] theorem putAll_n {ds : List D} {r : En} : putAll [] ds r = r := by cases ds <;> rfl
@[simp] theorem putAll_c {i : Nat} {is : List Nat} {d : D} {ds : List D} {r : En} : putAll (i :: is) (d :: ds) r = putAll is ds (put r i d) := rfl
@[simp] theorem tst_n : tst .none = .ok false := rfl
@[simp] theorem tst_b {b : Bool} : tst (.bool b) = .ok b := rfl
@[simp] theorem tst_i {i : Int} : tst (.int i) = .ok (i != 0) := rfl
@[simp] theorem tst_s {x : Str} : tst (.str x) = .ok (x.length != 0) := rfl
@[simp] theorem tst_l {xs : List D} : tst (.list xs) = .ok (!xs.isEmpty) := rfl
@[simp] theorem tst_t {xs : List D} : tst (.tuple xs) = .ok (!xs.isEmpty) := rfl
@[simp] theorem b_addI {i j : Int} : binF .add (.int i) (.int j) = .ok (.int (i + j)) := rfl
@[simp] theorem b_subI {i j : Int} : binF .sub (.int i) (.int j) = .ok (.int (i - j)) := rfl
theorem b_mulI {i j : Int} (h : (decide (-(2 ^ 64) < i ∧ i < 2 ^ 64) || decide (-(2 ^ 64) < j ∧ j < 2 ^ 64)) = true) : binF .mul (.int i) (.int j) = .ok (.int (i * j)) := by
  show R.gd _ _ = _
  rw [h]; rfl
theorem b_modI {i j : Int} (h : 0 < j) : binF .mod (.int i) (.int j) = .ok (.int (i % j)) := by
  show R.gd (decide (0 < j)) _ = _
  rw [decide_eq_true h]; rfl
theorem b_divI {i j : Int} (h : 0 < j ∧ j < 1073741824) : binF .fdiv (.int i) (.int j) = .ok (.int (i / j)) := by
  show R.gd (decide (0 < j ∧ j < 1073741824)) _ = _
  rw [decide_eq_true h]; rfl
theorem b_addS {x y : Str} (h : x.length + y.length ≤ LIM) : binF .add (.str x) (.str y) = .ok (.str (x ++ y)) := by
  show R.gd (decide (x.length + y.length ≤ LIM)) _ = _
  rw [decide_eq_true h]; rfl
theorem b_addT {x y : List D} (h : x.length + y.length ≤ LIM) : binF .add (.tuple x) (.tuple y) = .ok (.tuple (x ++ y)) := by
  show R.gd (decide (x.length + y.length ≤ LIM)) _ = _
  rw [decide_eq_true h]; rfl
theorem b_addL {x y : List D} (h : x.length + y.length ≤ LIM) : binF .add (.list x) (.list y) = .ok (.list (x ++ y)) := by
  show R.gd (decide (x.length + y.length ≤ LIM)) _ = _
  rw [decide_eq_true h]; rfl
@[simp] theorem c_ltI {i j : Int} : cmpF .lt (.int i) (.int j) = .ok (decide (i < j)) := rfl
@[simp] theorem c_leI {i j : Int} : cmpF .le (.int i) (.int j) = .ok (decide (i ≤ j)) := rfl
@[simp] theorem c_gtI {i j : Int} : cmpF .gt (.int i) (.int j) = .ok (decide (j < i)) := rfl
@[simp] theorem c_geI {i j : Int} : cmpF .ge (.int i) (.int j) = .ok (decide (j ≤ i)) := rfl
@[simp] theorem c_eqI {i j : Int} : cmpF .eq (.int i) (.int j) = .ok (i == j) := rfl
@[simp] theorem c_neI {i j : Int} : cmpF .ne (.int i) (.int j) = .ok (!(i == j)) := rfl
@[simp] theorem c_eqS {i j : Str} : cmpF .eq (.str i) (.str j) = .ok (i == j) := rfl
@[simp] theorem c_neS {i j : Str} : cmpF .ne (.str i) (.str j) = .ok (!(i == j)) := rfl
@[simp] theorem c_eqB {i j : Bool} : cmpF .eq (.bool i) (.bool j) = .ok (i == j) := rfl
@[simp] theorem c_neB {i j : Bool} : cmpF .ne (.bool i) (.bool j) = .ok (!(i == j)) := rfl
theorem c_eq {x y : D} (h1 : shal 60 x = true) (h2 : shal 60 y = true) : cmpF .eq x y = .ok (PyData.eqv x y) := by
  show R.gd (shal 60 x && shal 60 y) _ = _
  rw [h1, h2]; rfl
theorem c_ne {x y : D} (h1 : shal 60 x = true) (h2 : shal 60 y = true) : cmpF .ne x y = .ok (!PyData.eqv x y) := by
  show R.gd (shal 60 x && shal 60 y) _ = _
  rw [h1, h2]; rfl
@[simp] theorem c_isB {x : D} {b : Bool} : cmpF .is_ x (.bool b) = .ok (isBl b x) := by cases x <;> rfl
@[simp] theorem c_isnB {x : D} {b : Bool} : cmpF .isnot x (.bool b) = .ok (!isBl b x) := by cases x <;> rfl
@[simp] theorem c_isN {x : D} : cmpF .is_ x .none = .ok (isNon x) := by cases x <;> rfl
@[simp] theorem c_isnN {x : D} : cmpF .isnot x .none = .ok (!isNon x) := by cases x <;> rfl
@[simp] theorem isBl_b {b c : Bool} : isBl b (.bool c) = (c == b) := rfl
@[simp] theorem c_leS {x y : Str} : cmpF .le (.str x) (.str y) = .ok (decide (x.cps.toList ≤ y.cps.toList)) := rfl
theorem c_in {x y : D} : cmpF .isin x y = inF x y := rfl
theorem c_nin {x y : D} : cmpF .notin x y = (inF x y).bind fun b => .ok (!b) := rfl
@[simp] theorem isi_n {ts : List Ty} : isiF .none ts = .ok (.bool (ts.any fun t => isTy .none t)) := rfl
@[simp] theorem isi_b {b : Bool} {ts : List Ty} : isiF (.bool b) ts = .ok (.bool (ts.any fun t => isTy (.bool b) t)) := rfl
@[simp] theorem isi_i {b : Int} {ts : List Ty} : isiF (.int b) ts = .ok (.bool (ts.any fun t => isTy (.int b) t)) := rfl
@[simp] theorem isi_s {b : Str} {ts : List Ty} : isiF (.str b) ts = .ok (.bool (ts.any fun t => isTy (.str b) t)) := rfl
@[simp] theorem isi_l {b : List D} {ts : List Ty} : isiF (.list b) ts = .ok (.bool (ts.any fun t => isTy (.list b) t)) := rfl
@[simp] theorem isi_t {b : List D} {ts : List Ty} : isiF (.tuple b) ts = .ok (.bool (ts.any fun t => isTy (.tuple b) t)) := rfl
@[simp] theorem ty_bb {b : Bool} : isTy (.bool b) .tbool = true := rfl
@[simp] theorem ty_bi {b : Bool} : isTy (.bool b) .tint = true := rfl
@[simp] theorem ty_bs {b : Bool} : isTy (.bool b) .tstr = false := rfl
@[simp] theorem ty_bt {b : Bool} : isTy (.bool b) .ttup = false := rfl
@[simp] theorem ty_bl {b : Bool} : isTy (.bool b) .tlst = false := rfl
@[simp] theorem ty_ib {b : Int} : isTy (.int b) .tbool = false := rfl
@[simp] theorem ty_ii {b : Int} : isTy (.int b) .tint = true := rfl
@[simp] theorem ty_is {b : Int} : isTy (.int b) .tstr = false := rfl
@[simp] theorem ty_it {b : Int} : isTy (.int b) .ttup = false := rfl
@[simp] theorem ty_il {b : Int} : isTy (.int b) .tlst = false := rfl
@[simp] theorem ty_sb {b : Str} : isTy (.str b) .tbool = false := rfl
@[simp] theorem ty_si {b : Str} : isTy (.str b) .tint = false := rfl
@[simp] theorem ty_ss {b : Str} : isTy (.str b) .tstr = true := rfl
@[simp] theorem ty_st {b : Str} : isTy (.str b) .ttup = false := rfl
@[simp] theorem ty_sl {b : Str} : isTy (.str b) .tlst = false := rfl
@[simp] theorem ty_tb {b : List D} : isTy (.tuple b) .tbool = false := rfl
@[simp] theorem ty_ti {b : List D} : isTy (.tuple b) .tint = false := rfl
@[simp] theorem ty_ts {b : List D} : isTy (.tuple b) .tstr = false := rfl
@[simp] theorem ty_tt {b : List D} : isTy (.tuple b) .ttup = true := rfl
@[simp] theorem ty_tl {b : List D} : isTy (.tuple b) .tlst = false := rfl
@[simp] theorem ty_lb {b : List D} : isTy (.list b) .tbool = false := rfl
@[simp] theorem ty_li {b : List D} : isTy (.list b) .tint = false := rfl
@[simp] theorem ty_ls {b : List D} : isTy (.list b) .tstr = false := rfl
@[simp] theorem ty_lt {b : List D} : isTy (.list b) .ttup = false := rfl
@[simp] theorem ty_ll {b : List D} : isTy (.list b) .tlst = true := rfl
@[simp] theorem ty_n {t : Ty} : isTy .none t = false := by cases t <;> rfl
@[simp] theorem lenL {xs : List D} : bltF .len [.list xs] = .ok (.int xs.length) := rfl
@[simp] theorem lenT {xs : List D} : bltF .len [.tuple xs] = .ok (.int xs.length) := rfl
@[simp] theorem lenS {x : Str} : bltF .len [.str x] = .ok (.int x.length) := rfl
@[simp] theorem tupL {xs : List D} : bltF .tuple [.list xs] = .ok (.tuple xs) := rfl
@[simp] theorem lstT {xs : List D} : bltF .list [.tuple xs] = .ok (.list xs) := rfl
@[simp] theorem lstL {xs : List D} : bltF .list [.list xs] = .ok (.list xs) := rfl
@[simp] theorem intB {b : Bool} : bltF .int [.bool b] = .ok (.int (if b then 1 else 0)) := rfl
@[simp] theorem intI {b : Int} : bltF .int [.int b] = .ok (.int b) := rfl
theorem boolsOf_map : ∀ {bs : List Bool}, boolsOf (bs.map .bool) = some bs
  | [] => rfl
  | b :: bs => by
    show (boolsOf (bs.map .bool)).map (b :: ·) = _
    rw [boolsOf_map]; rfl
theorem allB {bs : List Bool} : bltF .all [.list (bs.map .bool)] = .ok (.bool (bs.all id)) := by
  show (R.ofO (boolsOf (bs.map .bool))).bind _ = _
  rw [boolsOf_map]; rfl
theorem anyB {bs : List Bool} : bltF .any [.list (bs.map .bool)] = .ok (.bool (bs.any id)) := by
  show (R.ofO (boolsOf (bs.map .bool))).bind _ = _
  rw [boolsOf_map]; rfl
@[simp] theorem idxL {xs : List D} {i : Int} : idxF (.list xs) (.int i) = .ofO (atOf xs i) := rfl
@[simp] theorem idxT {xs : List D} {i : Int} : idxF (.tuple xs) (.int i) = .ofO (atOf xs i) := rfl
theorem atOf_nat {α : Type} {xs : List α} {i : Int} (h0 : 0 ≤ i) (h1 : i < xs.length) : atOf xs i = xs[i.toNat]? := by
  unfold atOf ixOf
  rw [if_pos h0, if_pos h1]; rfl
@[simp] theorem at0 {x : α} {xs : List α} : atOf (x :: xs) 0 = some x := by
  rw [atOf_nat (by omega) (by simp only [List.length_cons]; omega)]; rfl
theorem at1 {x y : α} {xs : List α} : atOf (x :: y :: xs) 1 = some y := by
  rw [atOf_nat (by omega) (by simp only [List.length_cons]; omega)]; rfl
theorem at2 {x y z : α} {xs : List α} : atOf (x :: y :: z :: xs) 2 = some z := by
  rw [atOf_nat (by omega) (by simp only [List.length_cons]; omega)]; rfl
@[simp] theorem slcT {xs : List D} {lo hi : Option Int} : slcF (.tuple xs) lo hi = .ok (.tuple (cutL xs lo hi)) := rfl
@[simp] theorem slcL {xs : List D} {lo hi : Option Int} : slcF (.list xs) lo hi = .ok (.list (cutL xs lo hi)) := rfl
@[simp] theorem slcS {x : Str} {lo hi : Option Int} : slcF (.str x) lo hi = .ok (.str (cutStr x lo hi)) := rfl
theorem cut_from1 {α : Type} {x : α} {xs : List α} : cutL (x :: xs) (some 1) none = xs := by
  unfold cutL sIx
  simp
@[simp] theorem toI_int {i : Int} : toI (.int i) = .ok (some i) := rfl
@[simp] theorem ab_var {i : Nat} : ((.var i) : M).absent = false := rfl
@[simp] theorem ab_lin {i : Nat} : ((.lin i) : M).absent = false := rfl
@[simp] theorem ab_non  : ((.non ) : M).absent = true := rfl
@[simp] theorem ab_bl {b : Bool} : ((.bl b) : M).absent = false := rfl
@[simp] theorem ab_int {i : Int} : ((.int i) : M).absent = false := rfl
@[simp] theorem ab_str {x : Str} : ((.str x) : M).absent = false := rfl
@[simp] theorem ab_tup {es : List M} : ((.tup es) : M).absent = false := rfl
@[simp] theorem ab_lst {es : List M} : ((.lst es) : M).absent = false := rfl
@[simp] theorem ab_bin {op : Bop} {a b : M} : ((.bin op a b) : M).absent = false := rfl
@[simp] theorem ab_neg {a : M} : ((.neg a) : M).absent = false := rfl
@[simp] theorem ab_nt {a : M} : ((.nt a) : M).absent = false := rfl
@[simp] theorem ab_and {a b : M} : ((.and a b) : M).absent = false := rfl
@[simp] theorem ab_or {a b : M} : ((.or a b) : M).absent = false := rfl
@[simp] theorem ab_ife {c a b : M} : ((.ife c a b) : M).absent = false := rfl
@[simp] theorem ab_cmp {op : Cop} {a b : M} : ((.cmp op a b) : M).absent = false := rfl
@[simp] theorem ab_chain {o1 o2 : Cop} {a b c : M} : ((.chain o1 o2 a b c) : M).absent = false := rfl
@[simp] theorem ab_call {f : Str} {es : List M} : ((.call f es) : M).absent = false := rfl
@[simp] theorem ab_blt {b : Blt} {es : List M} : ((.blt b es) : M).absent = false := rfl
@[simp] theorem ab_mth {b : Blt} {o : M} {es : List M} : ((.mth b o es) : M).absent = false := rfl
@[simp] theorem ab_isi {a : M} {ts : List Ty} : ((.isi a ts) : M).absent = false := rfl
@[simp] theorem ab_idx {a i : M} : ((.idx a i) : M).absent = false := rfl
@[simp] theorem ab_slc {a lo hi : M} : ((.slc a lo hi) : M).absent = false := rfl
@[simp] theorem ab_rev {a : M} : ((.rev a) : M).absent = false := rfl
@[simp] theorem ab_lc {own : List Nat} {tg : Tg} {ik : ItK} {its : List M} {cond elt : M} : ((.lc own tg ik its cond elt) : M).absent = false := rfl
@[simp] theorem ab_dnew  : ((.dnew ) : M).absent = false := rfl
@[simp] theorem ab_ddisp {k v : M} : ((.ddisp k v) : M).absent = false := rfl
@[simp] theorem revT {xs : List D} : revF (.tuple xs) = .ok (.tuple xs.reverse) := rfl
/-- a comprehension whose turns are all told -/
theorem lcN_ok {f : D → R (Option D)} {g : D → Option D} : ∀ {xs : List D}, (∀ x ∈ xs, f x = .ok (g x)) → lcN f xs = .ok (xs.filterMap g)
  | [], _ => rfl
  | x :: xs, h => by
    unfold lcN
    rw [h x (.head _), lcN_ok fun y hy => h y (.tail _ hy)]
    simp only [R.calm_ok, R.bind_ok, List.filterMap_cons]
    cases g x <;> rfl
theorem lcN_map {α : Type} {f : D → R (Option D)} {g h : α → D} : ∀ {xs : List α}, (∀ c ∈ xs, f (g c) = .ok (some (h c))) → lcN f (xs.map g) = .ok (xs.map h)
  | [], _ => rfl
  | x :: xs, e => by
    rw [List.map_cons]
    unfold lcN
    rw [e x (.head _), lcN_map fun y hy => e y (.tail _ hy)]
    rfl
theorem lcN_all {f : D → R (Option D)} {h : D → D} : ∀ {xs : List D}, (∀ c ∈ xs, f c = .ok (some (h c))) → lcN f xs = .ok (xs.map h)
  | [], _ => rfl
  | x :: xs, e => by
    rw [List.map_cons]
    unfold lcN
    rw [e x (.head _), lcN_all fun y hy => e y (.tail _ hy)]
    rfl
theorem lcN_mapO {α : Type} {f : D → R (Option D)} {g : α → D} {h : α → Option D} : ∀ {xs : List α}, (∀ c ∈ xs, f (g c) = .ok (h c)) → lcN f (xs.map g) = .ok (xs.filterMap h)
  | [], _ => rfl
  | x :: xs, e => by
    rw [List.map_cons]
    unfold lcN
    rw [e x (.head _), lcN_mapO fun y hy => e y (.tail _ hy)]
    simp only [R.calm_ok, R.bind_ok, List.filterMap_cons]
    cases h x <;> rfl
mutual
theorem shal_up : ∀ (d : D) {n m : Nat}, n ≤ m → shal n d = true → shal m d = true
  | .none, n, m, _, _ => by simp [shal]
  | .bool _, n, m, _, _ => by simp [shal]
  | .int _, n, m, _, _ => by simp [shal]
  | .str _, n, m, _, _ => by simp [shal]
  | .list xs, n, m, h, e => by
    cases n with
    | zero => simp [shal] at e
    | succ n =>
      cases m with
      | zero => omega
      | succ m => simp only [shal] at e ⊢; exact shalL_up xs (by omega) e
  | .tuple xs, n, m, h, e => by
    cases n with
    | zero => simp [shal] at e
    | succ n =>
      cases m with
      | zero => omega
      | succ m => simp only [shal] at e ⊢; exact shalL_up xs (by omega) e
  | .dict kvs, n, m, h, e => by
    cases n <;> simp [shal] at e
theorem shalL_up : ∀ (ds : List D) {n m : Nat}, n ≤ m → shalL n ds = true → shalL m ds = true
  | [], n, m, _, _ => by simp [shalL]
  | d :: ds, n, m, h, e => by
    simp only [shalL, Bool.and_eq_true] at e ⊢
    exact ⟨shal_up d h e.1, shalL_up ds h e.2⟩
end
theorem shal_tup {n : Nat} {xs : List D} (h : shal (n + 1) (.tuple xs) = true) : shalL n xs = true := by simpa [shal] using h
theorem shalL_mem : ∀ {n : Nat} {xs : List D}, shalL n xs = true → ∀ x ∈ xs, shal n x = true
  | n, [], _, x, hx => nomatch hx
  | n, y :: ys, h, x, hx => by
    simp only [shalL, Bool.and_eq_true] at h
    rcases List.mem_cons.mp hx with rfl | hx
    · exact h.1
    · exact shalL_mem h.2 x hx
theorem shalL_of : ∀ {n : Nat} {xs : List D}, (∀ x ∈ xs, shal n x = true) → shalL n xs = true
  | n, [], _ => by simp [shalL]
  | n, y :: ys, h => by
    simp only [shalL, Bool.and_eq_true]
    exact ⟨h y (.head _), shalL_of fun x hx => h x (.tail _ hx)⟩
theorem seq {w z : Str} : cmpF .eq (.str w) (.str z) = .ok (decide (w = z)) := rfl
theorem eq_nil {ys : List D} (h : shalL 59 ys = true) : cmpF .eq (.list ys) (.list []) = .ok ys.isEmpty := by
  rw [c_eq (by simpa [shal] using h) (by simp [shal, shalL])]
  cases ys <;> simp [PyData.eqv, PyData.eqvAll]
theorem le_one {a b : Nat} : decide ((⟨#[a]⟩ : Str).cps.toList ≤ (⟨#[b]⟩ : Str).cps.toList) = decide (a ≤ b) := by
  rw [decide_eq_decide]
  show ¬ ([b] < [a]) ↔ _
  rw [List.cons_lt_cons_iff]
  simp
/-- a loop that goes through -/
theorem forN_inv {tg : Tg} {body : En → F} (P : En → Prop) : ∀ {xs : List D} {r : En}, P r → (∀ r x, x ∈ xs → P r → ∃ r1 r2, asg tg x r = .ok r1 ∧ body r1 = .nx r2 ∧ P r2) → ∃ r', forN tg body xs r = .nx r' ∧ P r'
  | [], r, h, _ => ⟨r, rfl, h⟩
  | x :: xs, r, h, hb => by
    obtain ⟨r1, r2, e1, e2, h2⟩ := hb r x (.head _) h
    obtain ⟨r', e3, h3⟩ := forN_inv P (xs := xs) h2 fun r y hy hp => hb r y (.tail _ hy) hp
    refine ⟨r', ?_, h3⟩
    unfold forN
    rw [e1]
    simp only [R.toF_ok]
    rw [e2]
    exact e3
theorem for_inv {C : CallF} {wf : Nat} {tg : Tg} {ik : ItK} {its : List M} {body : List MS} {xs : List D} {r : En} (P : En → Prop) (h0 : P r) (hi : (evs C its r).bind (itemsF ik) = .ok xs) (step : ∀ r x, x ∈ xs → P r → ∃ r1 r2, asg tg x r = .ok r1 ∧ evSs C wf body r1 = .nx r2 ∧ P r2) :
    ∃ r', evS C wf (.for_ tg ik its body) r = .nx r' ∧ P r' := by
  obtain ⟨r', e, h⟩ := forN_inv (tg := tg) (body := fun r1 => evSs C wf body r1) P h0 step
  refine ⟨r', ?_, h⟩
  simp only [evS]
  rw [← toF_bind, hi]
  exact e
/-- the body of a loop -/
def fb : MS → List MS
  | .for_ _ _ _ b => b
  | .while_ _ b => b
  | _ => []
@[simp] theorem it_plainL {xs : List D} : itemsF .plain [.list xs] = .ok xs := rfl
@[simp] theorem it_plainT {xs : List D} : itemsF .plain [.tuple xs] = .ok xs := rfl
@[simp] theorem it_plainS {x : Str} : itemsF .plain [.str x] = .ok (charsOf x) := rfl
theorem it_range1 {n : Int} (h : -1000000 ≤ n ∧ n ≤ 1000000) : itemsF .range1 [.int n] = .ok ((List.range n.toNat).map fun (k : Nat) => .int (k : Int)) := by
  show R.gd (decide (-1000000 ≤ n ∧ n ≤ 1000000)) _ = _
  rw [decide_eq_true h]; rfl
theorem run_ok {C : CallF} {wf : Nat} {f : MFun} {ds : List D} (h : ds.length = f.params) : runF C wf f ds = (evSs C wf f.body (startE f ds)).res := by
  unfold runF; rw [if_pos h]
/-- the mixer -/
def mMix : MFun := ⟨3, 4, [], [
  .set 3 (.bin .mod (.bin .mul (.var 0) (.int (48271))) (.var 1)),
  .ret (.bin .mod (.bin .mod (.bin .mul (.var 3) (.bin .add (.var 3) (.int (7)))) (.var 1)) (.var 2))]⟩
def mix (c p n : Int) : Int := (c * 48271 % p) * (c * 48271 % p + 7) % p % n
theorem mix_ok {T : Tab} {wf k : Nat} {nat : CallF} (h : T.lookup ("_law_mix" : Str) = some mMix) (c : Int) {p n : Int} (hp : 0 < p) (hp2 : p < 1000000) (hn : 0 < n) : callN T wf nat (k + 1) "_law_mix" [.int c, .int p, .int n] = .ok (.int (mix c p n)) := by
  rw [callN_at h, run_ok rfl]
  have h1 : 0 ≤ c * 48271 % p := Int.emod_nonneg _ (by omega)
  have h2 : c * 48271 % p < p := Int.emod_lt_of_pos _ hp
  have e1 : binF .mul (.int c) (.int 48271) = .ok (.int (c * 48271)) := b_mulI (by simp)
  have e2 : binF .mul (.int (c * 48271 % p)) (.int (c * 48271 % p + 7)) = .ok (.int (c * 48271 % p * (c * 48271 % p + 7))) := b_mulI (by
    rw [Bool.or_eq_true]; left; rw [decide_eq_true_eq]; omega)
  simp [mMix, startE, e1, e2, b_modI hp, b_modI hn, mix]
theorem mix_pos {c p n : Int} (hn : 0 < n) : 0 ≤ mix c p n := Int.emod_nonneg _ (by omega)
theorem mix_lt {c p n : Int} (hn : 0 < n) : mix c p n < n := Int.emod_lt_of_pos _ hn
end BT
set_option Elab.async false
set_option linter.all false
set_option maxRecDepth 100000
set_option maxHeartbeats 4000000
/-! BTQ: parts that several laws have in common: drawn tests. -/
namespace BT
open PySem
def mTest : MFun := ⟨2, 3, [], [
  .set 2 (.call "_law_mix" [(.var 0), (.int (9973)), (.int (7))]),
  .iff (.or (.cmp .lt (.var 2) (.int (3))) (.cmp .lt (.var 1) (.int (2)))) [
    .iff (.cmp .eq (.bin .mod (.var 2) (.int (2))) (.int (0))) [
      .ret (.tup [(.str "has"), (.idx (.tup [(.str "x"), (.str "y")]) (.call "_law_mix" [(.var 0), (.int (9967)), (.int (2))])), (.bin .add (.int (1)) (.call "_law_mix" [(.var 0), (.int (9949)), (.int (3))]))])] [],
    .ret (.tup [(.str "been"), (.idx (.tup [(.str "a"), (.str "b"), (.str "c"), (.str "d")]) (.call "_law_mix" [(.var 0), (.int (9941)), (.int (4))]))])] [],
  .iff (.cmp .eq (.var 2) (.int (3))) [
    .ret (.tup [(.str "not"), (.call "_law_test" [(.bin .add (.var 0) (.int (1))), (.bin .sub (.var 1) (.int (1)))])])] [],
  .ret (.tup [(.idx (.tup [(.str "and"), (.str "or")]) (.bin .mod (.var 2) (.int (2)))), (.call "_law_test" [(.bin .add (.var 0) (.int (2))), (.bin .sub (.var 1) (.int (1)))]), (.call "_law_test" [(.bin .add (.var 0) (.int (5))), (.bin .sub (.var 1) (.int (1)))])])]⟩
inductive Gen : Nat → D → Prop
  | has {n : Nat} {s : Str} {i : Int} : (s = "x" ∨ s = "y") → 1 ≤ i → i ≤ 3 → Gen (n + 1) (.tuple [.str "has", .str s, .int i])
  | been {n : Nat} {s : Str} : (s = "a" ∨ s = "b" ∨ s = "c" ∨ s = "d") → Gen (n + 1) (.tuple [.str "been", .str s])
  | nt {n : Nat} {t : D} : Gen n t → Gen (n + 1) (.tuple [.str "not", t])
  | two {n : Nat} {w : Str} {a b : D} : (w = "and" ∨ w = "or") → Gen n a → Gen n b → Gen (n + 1) (.tuple [.str w, a, b])
theorem Gen.shal {n : Nat} {d : D} (h : Gen n d) : shal n d = true := by
  induction h with
  | has h1 h2 h3 => simp [BT.shal, shalL]
  | been h1 => simp [BT.shal, shalL]
  | nt _ ih => simp [BT.shal, shalL, ih]
  | two h1 _ _ iha ihb => simp [BT.shal, shalL, iha, ihb]
theorem Gen.pos {n : Nat} {d : D} (h : Gen n d) : 0 < n := by cases h <;> omega
theorem pick2 {α : Type} {a b : α} {i : Int} (h0 : 0 ≤ i) (h1 : i < 2) : ∃ x, atOf [a, b] i = some x ∧ (x = a ∨ x = b) := by
  rw [atOf_nat h0 (by simpa using h1)]
  have : i = 0 ∨ i = 1 := by omega
  rcases this with rfl | rfl
  · exact ⟨a, rfl, .inl rfl⟩
  · exact ⟨b, rfl, .inr rfl⟩
theorem pick4 {α : Type} {a b c d : α} {i : Int} (h0 : 0 ≤ i) (h1 : i < 4) : ∃ x, atOf [a, b, c, d] i = some x ∧ (x = a ∨ x = b ∨ x = c ∨ x = d) := by
  rw [atOf_nat h0 (by simpa using h1)]
  have : i = 0 ∨ i = 1 ∨ i = 2 ∨ i = 3 := by omega
  rcases this with rfl | rfl | rfl | rfl
  · exact ⟨a, rfl, .inl rfl⟩
  · exact ⟨b, rfl, .inr (.inl rfl)⟩
  · exact ⟨c, rfl, .inr (.inr (.inl rfl))⟩
  · exact ⟨d, rfl, .inr (.inr (.inr rfl))⟩
theorem gen_ok {T : Tab} {wf k : Nat} {nat : CallF} (hM : T.lookup ("_law_mix" : Str) = some mMix) (hT : T.lookup ("_law_test" : Str) = some mTest) : ∀ (n : Nat) (c : Int), ∃ d, callN T wf nat (k + n + 2) "_law_test" [.int c, .int ((n : Int) + 1)] = .ok d ∧ Gen (n + 1) d := by
  intro n
  induction n with
  | zero =>
    intro c
    rw [callN_at hT, run_ok rfl]
    have e1 := mix_ok (wf := wf) (nat := nat) (k := k) hM c (p := 9973) (n := 7) (by omega) (by omega) (by omega)
    have e2 := mix_ok (wf := wf) (nat := nat) (k := k) hM c (p := 9967) (n := 2) (by omega) (by omega) (by omega)
    have e3 := mix_ok (wf := wf) (nat := nat) (k := k) hM c (p := 9949) (n := 3) (by omega) (by omega) (by omega)
    have e4 := mix_ok (wf := wf) (nat := nat) (k := k) hM c (p := 9941) (n := 4) (by omega) (by omega) (by omega)
    have p3 : 0 ≤ mix c 9949 3 ∧ mix c 9949 3 < 3 := ⟨mix_pos (by omega), mix_lt (by omega)⟩
    obtain ⟨s2, q2, r2⟩ := pick2 (a := (.str "x" : D)) (b := .str "y") (mix_pos (c := c) (p := 9967) (n := 2) (by omega)) (mix_lt (by omega))
    obtain ⟨s4, q4, r4⟩ := pick4 (a := (.str "a" : D)) (b := .str "b") (c := .str "c") (d := .str "d") (mix_pos (c := c) (p := 9941) (n := 4) (by omega)) (mix_lt (by omega))
    generalize mix c 9973 7 = way at *
    by_cases hw : way % 2 = 0
    · refine ⟨.tuple [.str "has", s2, .int (1 + mix c 9949 3)], ?_, ?_⟩
      · by_cases h3 : way < 3 <;> simp [mTest, startE, e1, e2, e3, e4, b_modI, hw, q2, h3]
      · rcases r2 with rfl | rfl
        · exact .has (.inl rfl) (by omega) (by omega)
        · exact .has (.inr rfl) (by omega) (by omega)
    · have hw' : (way % 2 == 0) = false := by rw [beq_eq_false_iff_ne]; exact hw
      refine ⟨.tuple [.str "been", s4], ?_, ?_⟩
      · by_cases h3 : way < 3 <;> simp [mTest, startE, e1, e2, e3, e4, b_modI, hw', q4, h3]
      · rcases r4 with rfl | rfl | rfl | rfl
        · exact .been (.inl rfl)
        · exact .been (.inr (.inl rfl))
        · exact .been (.inr (.inr (.inl rfl)))
        · exact .been (.inr (.inr (.inr rfl)))
  | succ n ih =>
    intro c
    rw [callN_at hT, run_ok rfl]
    have e1 := mix_ok (wf := wf) (nat := nat) (k := k + (n + 1)) hM c (p := 9973) (n := 7) (by omega) (by omega) (by omega)
    have e2 := mix_ok (wf := wf) (nat := nat) (k := k + (n + 1)) hM c (p := 9967) (n := 2) (by omega) (by omega) (by omega)
    have e3 := mix_ok (wf := wf) (nat := nat) (k := k + (n + 1)) hM c (p := 9949) (n := 3) (by omega) (by omega) (by omega)
    have e4 := mix_ok (wf := wf) (nat := nat) (k := k + (n + 1)) hM c (p := 9941) (n := 4) (by omega) (by omega) (by omega)
    have p3 : 0 ≤ mix c 9949 3 ∧ mix c 9949 3 < 3 := ⟨mix_pos (by omega), mix_lt (by omega)⟩
    obtain ⟨s2, q2, r2⟩ := pick2 (a := (.str "x" : D)) (b := .str "y") (mix_pos (c := c) (p := 9967) (n := 2) (by omega)) (mix_lt (by omega))
    obtain ⟨s4, q4, r4⟩ := pick4 (a := (.str "a" : D)) (b := .str "b") (c := .str "c") (d := .str "d") (mix_pos (c := c) (p := 9941) (n := 4) (by omega)) (mix_lt (by omega))
    have hd : ¬ ((n : Int) + 1 + 1 < 2) := by omega
    have ed : ((n : Int) + 1 + 1 - 1) = (n : Int) + 1 := by omega
    obtain ⟨t1, f1, g1⟩ := ih (c + 1)
    obtain ⟨t2, f2, g2⟩ := ih (c + 2)
    obtain ⟨t5, f5, g5⟩ := ih (c + 5)
    have f1' : callN T wf nat (k + (n + 1) + 1) "_law_test" [.int (c + 1), .int ((n : Int) + 1)] = .ok t1 := f1
    have f2' : callN T wf nat (k + (n + 1) + 1) "_law_test" [.int (c + 2), .int ((n : Int) + 1)] = .ok t2 := f2
    have f5' : callN T wf nat (k + (n + 1) + 1) "_law_test" [.int (c + 5), .int ((n : Int) + 1)] = .ok t5 := f5
    obtain ⟨w, qw, rw⟩ := pick2 (a := (.str "and" : D)) (b := .str "or") (i := mix c 9973 7 % 2) (by omega) (by omega)
    generalize mix c 9973 7 = way at *
    by_cases h3 : way < 3
    · by_cases hw : way % 2 = 0
      · refine ⟨.tuple [.str "has", s2, .int (1 + mix c 9949 3)], ?_, ?_⟩
        · simp [mTest, startE, e1, e2, e3, e4, b_modI, hw, q2, h3]
        · rcases r2 with rfl | rfl
          · exact .has (.inl rfl) (by omega) (by omega)
          · exact .has (.inr rfl) (by omega) (by omega)
      · have hw' : (way % 2 == 0) = false := by rw [beq_eq_false_iff_ne]; exact hw
        refine ⟨.tuple [.str "been", s4], ?_, ?_⟩
        · simp [mTest, startE, e1, e2, e3, e4, b_modI, hw', q4, h3]
        · rcases r4 with rfl | rfl | rfl | rfl
          · exact .been (.inl rfl)
          · exact .been (.inr (.inl rfl))
          · exact .been (.inr (.inr (.inl rfl)))
          · exact .been (.inr (.inr (.inr rfl)))
    · by_cases h4 : way = 3
      · refine ⟨.tuple [.str "not", t1], ?_, .nt g1⟩
        simp [mTest, startE, e1, h3, hd, h4, ed, f1']
      · have h4' : (way == 3) = false := by rw [beq_eq_false_iff_ne]; exact h4
        refine ⟨.tuple [w, t2, t5], ?_, ?_⟩
        · simp [mTest, startE, e1, h3, hd, h4', ed, f2', f5', b_modI, qw]
        · rcases rw with rfl | rfl
          · exact .two (.inl rfl) g2 g5
          · exact .two (.inr rfl) g2 g5
end BT
set_option Elab.async false
set_option linter.all false
set_option maxRecDepth 100000
set_option maxHeartbeats 4000000
/-! BTA: plain mathematics: association lists, orders, books. -/
namespace BT
open PySem
/-! ### association lists -/
section
variable {α β : Type} [DecidableEq α]
def alook (l : List (α × β)) (a : α) : Option β := (l.find? fun p => decide (p.1 = a)).map Prod.snd
def ahas (l : List (α × β)) (a : α) : Bool := l.any fun p => decide (p.1 = a)
def aput (l : List (α × β)) (a : α) (b : β) : List (α × β) :=
  if ahas l a then l.map (fun p => if p.1 = a then (p.1, b) else p) else l ++ [(a, b)]
@[simp] theorem alook_nil {a : α} : alook ([] : List (α × β)) a = none := rfl
theorem alook_cons {p : α × β} {l : List (α × β)} {a : α} : alook (p :: l) a = if p.1 = a then some p.2 else alook l a := by
  unfold alook
  rw [List.find?_cons]
  by_cases h : p.1 = a
  · simp [h]
  · simp [h]
theorem ahas_iff {l : List (α × β)} {a : α} : ahas l a = true ↔ a ∈ l.map Prod.fst := by
  unfold ahas
  simp only [List.any_eq_true, decide_eq_true_eq, List.mem_map]
theorem alook_isSome {l : List (α × β)} {a : α} : (alook l a).isSome = ahas l a := by
  induction l with
  | nil => rfl
  | cons p l ih =>
    rw [alook_cons]
    unfold ahas at ih ⊢
    rw [List.any_cons]
    by_cases h : p.1 = a
    · simp [h]
    · simp [h, ih]
theorem alook_none {l : List (α × β)} {a : α} (h : a ∉ l.map Prod.fst) : alook l a = none := by
  have := alook_isSome (l := l) (a := a)
  rw [Bool.eq_false_iff.mpr (fun z => h (ahas_iff.mp z))] at this
  exact Option.not_isSome_iff_eq_none.mp (by simp [this])
theorem alook_some {l : List (α × β)} {a : α} {b : β} (h : alook l a = some b) : (a, b) ∈ l := by
  induction l with
  | nil => cases h
  | cons p l ih =>
    rw [alook_cons] at h
    by_cases e : p.1 = a
    · rw [if_pos e] at h; injection h with h; subst h; subst e; exact .head _
    · rw [if_neg e] at h; exact .tail _ (ih h)
theorem alook_mem {l : List (α × β)} (nd : (l.map Prod.fst).Nodup) {a : α} {b : β} (h : (a, b) ∈ l) : alook l a = some b := by
  induction l with
  | nil => cases h
  | cons p l ih =>
    rw [List.map_cons, List.nodup_cons] at nd
    rw [alook_cons]
    rcases List.mem_cons.mp h with e | h
    · rw [← e]; simp
    · have : p.1 ≠ a := fun e => nd.1 (e ▸ List.mem_map.mpr ⟨_, h, rfl⟩)
      rw [if_neg this]; exact ih nd.2 h
theorem alook_append {l m : List (α × β)} {a : α} : alook (l ++ m) a = (alook l a).or (alook m a) := by
  induction l with
  | nil => rfl
  | cons p l ih =>
    rw [List.cons_append, alook_cons, alook_cons]
    by_cases h : p.1 = a
    · simp [h]
    · simp [h, ih]
theorem alook_set {l : List (α × β)} {a c : α} {b : β} : alook (l.map fun p => if p.1 = a then (p.1, b) else p) c = if c = a then (alook l a).map (fun _ => b) else alook l c := by
  induction l with
  | nil => simp
  | cons p l ih =>
    rw [List.map_cons, alook_cons, alook_cons, alook_cons, ih]
    by_cases h1 : p.1 = a
    · by_cases h2 : c = a
      · simp [h1, h2]
      · have : ¬ a = c := fun e => h2 e.symm
        simp [h1, h2, this]
    · by_cases h2 : c = a
      · simp [h1, h2]
      · simp [h1, h2]
theorem alook_aput {l : List (α × β)} {a c : α} {b : β} : alook (aput l a b) c = if c = a then some b else alook l c := by
  unfold aput
  by_cases h : ahas l a = true
  · rw [if_pos h, alook_set]
    by_cases h2 : c = a
    · rw [if_pos h2, if_pos h2]
      rw [← alook_isSome] at h
      obtain ⟨x, e⟩ := Option.isSome_iff_exists.mp h
      rw [e]; rfl
    · rw [if_neg h2, if_neg h2]
  · rw [if_neg h, alook_append]
    have hn : alook l a = none := alook_none fun z => h (ahas_iff.mpr z)
    by_cases h2 : c = a
    · subst h2; rw [hn, alook_cons]; simp
    · have : ¬ a = c := fun e => h2 e.symm
      rw [alook_cons]; simp [h2, this]
theorem aput_keys {l : List (α × β)} {a : α} {b : β} : (aput l a b).map Prod.fst = if ahas l a then l.map Prod.fst else l.map Prod.fst ++ [a] := by
  unfold aput
  by_cases h : ahas l a = true
  · rw [if_pos h, if_pos h, List.map_map]
    apply List.map_congr_left
    intro p _
    show (if p.1 = a then (p.1, b) else p).1 = p.1
    split <;> rfl
  · rw [if_neg h, if_neg h]; simp
theorem aput_nodup {l : List (α × β)} {a : α} {b : β} (nd : (l.map Prod.fst).Nodup) : ((aput l a b).map Prod.fst).Nodup := by
  rw [aput_keys]
  by_cases h : ahas l a = true
  · rw [if_pos h]; exact nd
  · rw [if_neg h, List.nodup_append]
    refine ⟨nd, by simp, fun x hx y hy e => ?_⟩
    have : y = a := by simpa using hy
    subst this; subst e
    exact h (ahas_iff.mpr hx)
theorem aput_length {l : List (α × β)} {a : α} {b : β} : (aput l a b).length ≤ l.length + 1 := by
  unfold aput
  split <;> simp
theorem aput_mem {l : List (α × β)} {a : α} {b : β} {p : α × β} (h : p ∈ aput l a b) : p ∈ l ∨ p = (a, b) := by
  unfold aput at h
  split at h
  · obtain ⟨q, hq, e⟩ := List.mem_map.mp h
    by_cases z : q.1 = a
    · rw [if_pos z] at e; subst e; right; rw [z]
    · rw [if_neg z] at e; subst e; exact .inl hq
  · rcases List.mem_append.mp h with h | h
    · exact .inl h
    · right; simpa using h
end
/-! ### equality of data -/
mutual
/-- no truths in it: equal as Python compares is the same -/
def nb : D → Bool
  | .none => true
  | .bool _ => false
  | .int _ => true
  | .str _ => true
  | .list xs => nbL xs
  | .tuple xs => nbL xs
  | .dict _ => false
def nbL : List D → Bool
  | [] => true
  | x :: xs => nb x && nbL xs
end
mutual
theorem eqv_iff : ∀ (x y : D), nb x = true → nb y = true → (PyData.eqv x y = true ↔ x = y)
  | .none, y, _, h => by cases y <;> simp [PyData.eqv, nb] at h ⊢
  | .bool _, y, h, _ => by simp [nb] at h
  | .int i, y, _, h => by cases y <;> simp [PyData.eqv, nb] at h ⊢
  | .str x, y, _, h => by cases y <;> simp [PyData.eqv, nb] at h ⊢
  | .dict _, y, h, _ => by simp [nb] at h
  | .list xs, y, hx, hy => by
    cases y with
    | list ys =>
      simp only [nb] at hx hy
      simp only [PyData.eqv, PyData.list.injEq]
      exact eqvAll_iff xs ys hx hy
    | _ => simp [PyData.eqv]
  | .tuple xs, y, hx, hy => by
    cases y with
    | tuple ys =>
      simp only [nb] at hx hy
      simp only [PyData.eqv, PyData.tuple.injEq]
      exact eqvAll_iff xs ys hx hy
    | _ => simp [PyData.eqv]
theorem eqvAll_iff : ∀ (xs ys : List D), nbL xs = true → nbL ys = true → (PyData.eqvAll xs ys = true ↔ xs = ys)
  | [], ys, _, _ => by cases ys <;> simp [PyData.eqvAll]
  | x :: xs, [], _, _ => by simp [PyData.eqvAll]
  | x :: xs, y :: ys, hx, hy => by
    simp only [nbL, Bool.and_eq_true] at hx hy
    simp only [PyData.eqvAll, Bool.and_eq_true, List.cons.injEq]
    rw [eqv_iff x y hx.1 hy.1, eqvAll_iff xs ys hx.2 hy.2]
end
theorem eqv_nb {x y : D} (hx : nb x = true) (hy : nb y = true) [Decidable (x = y)] : PyData.eqv x y = decide (x = y) := by
  rw [Bool.eq_iff_iff, decide_eq_true_eq]
  exact eqv_iff x y hx hy
mutual
theorem eqv_rfl : ∀ (x : D) {n : Nat}, shal n x = true → PyData.eqv x x = true
  | .none, _, _ => by simp [PyData.eqv]
  | .bool _, _, _ => by simp [PyData.eqv]
  | .int i, _, _ => by simp [PyData.eqv]
  | .str x, _, _ => by simp [PyData.eqv]
  | .dict _, n, h => by cases n <;> simp [shal] at h
  | .list xs, n, h => by
    cases n with
    | zero => simp [shal] at h
    | succ n => simp only [PyData.eqv]; exact eqvAll_rfl xs (by simpa [shal] using h)
  | .tuple xs, n, h => by
    cases n with
    | zero => simp [shal] at h
    | succ n => simp only [PyData.eqv]; exact eqvAll_rfl xs (by simpa [shal] using h)
theorem eqvAll_rfl : ∀ (xs : List D) {n : Nat}, shalL n xs = true → PyData.eqvAll xs xs = true
  | [], _, _ => by simp [PyData.eqvAll]
  | x :: xs, n, h => by
    simp only [shalL, Bool.and_eq_true] at h
    simp only [PyData.eqvAll, Bool.and_eq_true]
    exact ⟨eqv_rfl x h.1, eqvAll_rfl xs h.2⟩
end
theorem nbL_of {xs : List D} (h : ∀ x ∈ xs, nb x = true) : nbL xs = true := by
  induction xs with
  | nil => simp [nbL]
  | cons x xs ih => simp only [nbL, Bool.and_eq_true]; exact ⟨h x (.head _), ih fun y hy => h y (.tail _ hy)⟩
theorem nbL_mem {xs : List D} (h : nbL xs = true) : ∀ x ∈ xs, nb x = true := by
  induction xs with
  | nil => intro x hx; cases hx
  | cons y xs ih =>
    simp only [nbL, Bool.and_eq_true] at h
    intro x hx
    rcases List.mem_cons.mp hx with rfl | hx
    · exact h.1
    · exact ih h.2 x hx
/-! ### dicts -/
section
variable {α β : Type} [DecidableEq α]
def dE (k : α → D) (v : β → D) (l : List (α × β)) : List (D × D) := l.map fun p => (k p.1, v p.2)
theorem dfind_E {k : α → D} {v : β → D} (hk : ∀ a b, PyData.eqv (k a) (k b) = decide (a = b)) {l : List (α × β)} {a : α} : dfind (dE k v l) (k a) = (alook l a).map v := by
  unfold dfind dE alook
  induction l with
  | nil => rfl
  | cons p l ih =>
    rw [List.map_cons, List.find?_cons, List.find?_cons, hk]
    by_cases h : p.1 = a
    · simp [h]
    · simp only [decide_eq_false h]; exact ih
theorem dput_E {k : α → D} {v : β → D} (hk : ∀ a b, PyData.eqv (k a) (k b) = decide (a = b)) {l : List (α × β)} {a : α} {b : β} : dput (dE k v l) (k a) (v b) = dE k v (aput l a b) := by
  unfold dput aput
  have e : ((dE k v l).any fun kv => PyData.eqv kv.1 (k a)) = ahas l a := by
    unfold dE ahas
    rw [List.any_map]
    congr 1
    funext p
    exact hk p.1 a
  rw [e]
  by_cases h : ahas l a = true
  · rw [if_pos h, if_pos h]
    unfold dE
    rw [List.map_map, List.map_map]
    apply List.map_congr_left
    intro p _
    simp only [Function.comp, hk]
    by_cases z : p.1 = a
    · simp [z]
    · simp [z]
  · rw [if_neg h, if_neg h]
    unfold dE
    simp
theorem ddel_E {k : α → D} {v : β → D} (hk : ∀ a b, PyData.eqv (k a) (k b) = decide (a = b)) {l : List (α × β)} {a : α} : ddel (dE k v l) (k a) = dE k v (l.filter fun p => !decide (p.1 = a)) := by
  unfold ddel dE
  rw [List.filter_map]
  congr 1
  apply List.filter_congr
  intro p _
  show (!PyData.eqv (k p.1) (k a)) = _
  rw [hk]
end
theorem eqvSS {a b : Str} : PyData.eqv (.str a) (.str b) = decide (a = b) := eqvS
theorem fitsS {β : Type} {v : β → D} {l : List (Str × β)} {s : Str} : keyFits (dE .str v l) (.str s) = true := by
  show ((dE .str v l).all fun kv => isStrD kv.1) = true
  unfold dE
  rw [List.all_map, List.all_eq_true]
  intro p _; rfl
/-! ### order -/
def leS (a b : Str) : Bool := leD (.str a) (.str b)
theorem leD_total : W.TotalLe leD := W.sortLe_total (PyProof.Rows.listOrd PyProof.Rows.itemOrd) false (fun b => W.keyToks b)
theorem leD_anti {x y : D} (h1 : leD x y = true) (h2 : leD y x = true) : W.keyToks x = W.keyToks y := by
  have e1 : (!(PyProof.Rows.listOrd PyProof.Rows.itemOrd).blt (W.keyToks y) (W.keyToks x)) = true := h1
  have e2 : (!(PyProof.Rows.listOrd PyProof.Rows.itemOrd).blt (W.keyToks x) (W.keyToks y)) = true := h2
  rw [Bool.not_eq_true'] at e1 e2
  exact (PyProof.Rows.listOrd PyProof.Rows.itemOrd).total _ _ e2 e1
theorem leD_refl (x : D) : leD x x = true := by rcases leD_total.total x x with h | h <;> exact h
theorem leS_refl (a : Str) : leS a a = true := leD_refl _
theorem leS_trans {a b c : Str} (h1 : leS a b = true) (h2 : leS b c = true) : leS a c = true := leD_total.trans _ _ _ h1 h2
theorem leS_total (a b : Str) : leS a b = true ∨ leS b a = true := leD_total.total _ _
theorem str_ext {a b : Str} (h : a.cps.toList = b.cps.toList) : a = b := by
  cases a; cases b
  simp only [Str.mk.injEq]
  exact Array.toList_inj.mp h
theorem leS_anti {a b : Str} (h1 : leS a b = true) (h2 : leS b a = true) : a = b := by
  have := leD_anti h1 h2
  simp only [W.keyToks, List.cons.injEq, Sum.inr.injEq, and_true] at this
  exact str_ext this
/-- a sorted list that has the same things is the sorted one -/
theorem sort_eq {α : Type} {le : α → α → Bool} (T : W.TotalLe le) {xs ys : List α} (hp : ys.Perm xs) (hs : ys.Pairwise fun a b => le a b = true) (anti : ∀ a b, a ∈ xs → b ∈ xs → le a b = true → le b a = true → a = b) : xs.mergeSort le = ys := by
  have h1 : (xs.mergeSort le).Pairwise fun a b => le a b = true := List.pairwise_mergeSort (fun a b c h1 h2 => T.trans a b c h1 h2) (fun a b => by rw [Bool.or_eq_true]; exact T.total a b) xs
  have h2 : (xs.mergeSort le).Perm ys := (List.mergeSort_perm xs le).trans hp.symm
  refine List.Perm.eq_of_pairwise (le := fun a b => le a b = true) (fun a b ha hb h3 h4 => ?_) h1 hs h2
  exact anti a b ((List.mergeSort_perm xs le).mem_iff.mp ha) (hp.mem_iff.mp hb) h3 h4
end BT
set_option Elab.async false
set_option linter.all false
set_option maxRecDepth 100000
set_option maxHeartbeats 4000000
/-! BTB: plain mathematics: books and deeds. -/
namespace BT
open PySem
abbrev Bk := List (Str × Int)
def num (b : Bk) (s : Str) : Int := (alook b s).getD 0
def ltS (a b : Str) : Prop := leS a b = true ∧ a ≠ b
theorem ltS_irr {a : Str} (h : ltS a a) : False := h.2 rfl
theorem ltS_trans {a b c : Str} (h1 : ltS a b) (h2 : ltS b c) : ltS a c := by
  refine ⟨leS_trans h1.1 h2.1, fun e => ?_⟩
  subst e
  exact h1.2 (leS_anti h1.1 h2.1)
structure Good (b : Bk) : Prop where
  srt : b.Pairwise fun p q => ltS p.1 q.1
  rng : ∀ p ∈ b, 1 ≤ p.2 ∧ p.2 ≤ 3
theorem Good.keys {b : Bk} (h : Good b) : (b.map Prod.fst).Nodup := by
  unfold List.Nodup
  rw [List.pairwise_map]
  exact h.srt.imp fun h => h.2
theorem Good.nodup {b : Bk} (h : Good b) : b.Nodup := h.srt.imp fun h e => h.2 (by rw [e])
theorem num_mem {b : Bk} (nd : (b.map Prod.fst).Nodup) {p : Str × Int} (h : p ∈ b) : num b p.1 = p.2 := by
  unfold num
  rw [alook_mem nd (show (p.1, p.2) ∈ b from h)]; rfl
theorem num_pos {b : Bk} {s : Str} (h : 0 < num b s) : (s, num b s) ∈ b := by
  unfold num at h ⊢
  cases e : alook b s with
  | none => rw [e] at h; simp at h
  | some v => exact alook_some e
theorem good_ext {b c : Bk} (hb : Good b) (hc : Good c) (h : ∀ s, num b s = num c s) : b = c := by
  have key : ∀ {b c : Bk}, Good b → Good c → (∀ s, num b s = num c s) → ∀ p, p ∈ b → p ∈ c := fun {b c} hb hc h p hp => by
    have h1 := num_mem hb.keys hp
    have h2 := (hb.rng p hp).1
    have h3 := num_pos (b := c) (s := p.1) (by rw [← h, h1]; omega)
    rw [← h, h1] at h3
    exact h3
  have hp : b.Perm c := (List.perm_ext_iff_of_nodup hb.nodup hc.nodup).mpr fun p => ⟨key hb hc h p, key hc hb (fun s => (h s).symm) p⟩
  refine List.Perm.eq_of_pairwise (le := fun p q => ltS p.1 q.1) (fun p q _ _ h1 h2 => ?_) hb.srt hc.srt hp
  exact (ltS_irr (ltS_trans h1 h2)).elim
/-- a deed -/
structure Dd where
  add : Bool
  name : Str
  n : Int
  deriving DecidableEq
def clamp (v : Int) : Int := max 0 (min 3 v)
def Dd.val (d : Dd) (v : Int) : Int := if d.add then clamp (v + d.n) else d.n
def Dd.ok (d : Dd) : Prop := d.add = false → 0 ≤ d.n ∧ d.n ≤ 3
theorem clamp_rng (v : Int) : 0 ≤ clamp v ∧ clamp v ≤ 3 := by unfold clamp; omega
theorem Dd.val_rng {d : Dd} (h : d.ok) (v : Int) : 0 ≤ d.val v ∧ d.val v ≤ 3 := by
  unfold Dd.val
  cases e : d.add with
  | true => simpa using clamp_rng _
  | false => simpa using h e
def numD (f : Str → Int) (ds : List Dd) : Str → Int := ds.foldl (fun f d s => if s = d.name then d.val (f s) else f s) f
theorem numD_append {f : Str → Int} {ds es : List Dd} : numD f (ds ++ es) = numD (numD f ds) es := List.foldl_append
theorem numD_congr {f g : Str → Int} (h : ∀ s, f s = g s) (ds : List Dd) : numD f ds = numD g ds := by rw [funext h]
theorem numD_rng {ds : List Dd} : ∀ {f : Str → Int}, (∀ s, 0 ≤ f s ∧ f s ≤ 3) → (∀ d ∈ ds, d.ok) → ∀ s, 0 ≤ numD f ds s ∧ numD f ds s ≤ 3 := by
  induction ds with
  | nil => intro f h _; exact h
  | cons d ds ih =>
    intro f h hd
    refine ih (f := fun s => if s = d.name then d.val (f s) else f s) (fun s => ?_) fun e he => hd e (.tail _ he)
    by_cases e : s = d.name
    · simp only [if_pos e]; exact Dd.val_rng (hd d (.head _)) _
    · simp only [if_neg e]; exact h s
/-- the dict, stepped -/
def stepD (h : Bk) (d : Dd) : Bk := aput h d.name (d.val (num h d.name))
def canon (h : Bk) : Bk := ((h.map Prod.fst).mergeSort leS).filterMap fun n => if 0 < num h n then some (n, num h n) else none
def doneM (b : Bk) (ds : List Dd) : Bk := canon (ds.foldl stepD b)
theorem num_aput {h : Bk} {n s : Str} {v : Int} : num (aput h n v) s = if s = n then v else num h s := by
  unfold num
  rw [alook_aput]
  split <;> rfl
theorem num_step {h : Bk} {d : Dd} {s : Str} : num (stepD h d) s = if s = d.name then d.val (num h s) else num h s := by
  unfold stepD
  rw [num_aput]
  by_cases e : s = d.name
  · rw [if_pos e, if_pos e, e]
  · rw [if_neg e, if_neg e]
theorem num_steps {ds : List Dd} : ∀ {h : Bk}, num (ds.foldl stepD h) = numD (num h) ds := by
  induction ds with
  | nil => intro h; rfl
  | cons d ds ih =>
    intro h
    show num (ds.foldl stepD (stepD h d)) = _
    rw [ih]
    show _ = numD (fun s => if s = d.name then d.val (num h s) else num h s) ds
    congr 1
    funext s
    exact num_step
theorem steps_nodup {ds : List Dd} : ∀ {h : Bk}, (h.map Prod.fst).Nodup → ((ds.foldl stepD h).map Prod.fst).Nodup := by
  induction ds with
  | nil => intro h nd; exact nd
  | cons d ds ih => intro h nd; exact ih (aput_nodup nd)
theorem steps_len {ds : List Dd} : ∀ {h : Bk}, (ds.foldl stepD h).length ≤ h.length + ds.length := by
  induction ds with
  | nil => intro h; exact Nat.le_refl _
  | cons d ds ih =>
    intro h
    have h1 := ih (h := stepD h d)
    have h2 : (stepD h d).length ≤ h.length + 1 := aput_length
    simp only [List.foldl_cons, List.length_cons]
    omega
theorem leS_T : W.TotalLe leS := ⟨fun _ _ _ h1 h2 => leS_trans h1 h2, leS_total⟩
theorem sortS_pw (l : List Str) : (l.mergeSort leS).Pairwise fun a b => leS a b = true := List.pairwise_mergeSort (le := leS) (fun a b c h1 h2 => leS_trans h1 h2) (fun a b => by rw [Bool.or_eq_true]; exact leS_total a b) l
theorem sortS_lt {l : List Str} (nd : l.Nodup) : (l.mergeSort leS).Pairwise ltS := by
  have h1 := sortS_pw l
  have h2 : (l.mergeSort leS).Nodup := (List.mergeSort_perm l leS).nodup_iff.mpr nd
  exact (h1.and h2).imp fun h => ⟨h.1, h.2⟩
theorem canon_good {h : Bk} (nd : (h.map Prod.fst).Nodup) (hr : ∀ s, num h s ≤ 3) : Good (canon h) := by
  constructor
  · unfold canon
    rw [List.pairwise_filterMap]
    refine (sortS_lt nd).imp fun {a b} hab p hp q hq => ?_
    split at hp
    · split at hq
      · cases hp; cases hq; exact hab
      · cases hq
    · cases hp
  · intro p hp
    obtain ⟨n, _, e⟩ := List.mem_filterMap.mp hp
    split at e
    · cases e
      rename_i h1
      exact ⟨by show 1 ≤ num h n; omega, hr n⟩
    · cases e
theorem num_canon {h : Bk} (nd : (h.map Prod.fst).Nodup) (h0 : ∀ s, 0 ≤ num h s) (hr : ∀ s, num h s ≤ 3) (s : Str) : num (canon h) s = num h s := by
  by_cases hp : 0 < num h s
  · have hm : (s, num h s) ∈ canon h := by
      refine List.mem_filterMap.mpr ⟨s, ?_, by rw [if_pos hp]⟩
      rw [(List.mergeSort_perm _ leS).mem_iff]
      exact List.mem_map.mpr ⟨_, num_pos hp, rfl⟩
    exact num_mem (canon_good nd hr).keys hm
  · have e0 : num h s = 0 := by have := h0 s; omega
    rw [e0]
    have h1 : ¬ 0 < num (canon h) s := fun z => by
      have := num_pos z
      obtain ⟨n, _, e⟩ := List.mem_filterMap.mp this
      split at e
      · injection e with e
        injection e with e1 e2
        rename_i h3
        rw [e1] at h3
        exact hp h3
      · cases e
    have h2 : 0 ≤ num (canon h) s := by
      unfold num
      cases e : alook (canon h) s with
      | none => simp
      | some v =>
        have := (canon_good nd hr).rng _ (alook_some e)
        simp at this ⊢
        omega
    omega
theorem Good.num_rng {b : Bk} (h : Good b) (s : Str) : 0 ≤ num b s ∧ num b s ≤ 3 := by
  unfold num
  cases e : alook b s with
  | none => simp
  | some v =>
    have := h.rng _ (alook_some e)
    simp at this ⊢
    omega
theorem num_done {b : Bk} {ds : List Dd} (hb : Good b) (hd : ∀ d ∈ ds, d.ok) : num (doneM b ds) = numD (num b) ds := by
  have hr := numD_rng (f := num b) (ds := ds) hb.num_rng hd
  funext s
  unfold doneM
  rw [num_canon (steps_nodup hb.keys) (fun s => by rw [num_steps]; exact (hr s).1) (fun s => by rw [num_steps]; exact (hr s).2), num_steps]
theorem done_good {b : Bk} {ds : List Dd} (hb : Good b) (hd : ∀ d ∈ ds, d.ok) : Good (doneM b ds) := by
  have hr := numD_rng (f := num b) (ds := ds) hb.num_rng hd
  exact canon_good (steps_nodup hb.keys) fun s => by rw [num_steps]; exact (hr s).2
theorem done_append {b : Bk} {ds es : List Dd} (hb : Good b) (hd : ∀ d ∈ ds, d.ok) (he : ∀ d ∈ es, d.ok) : doneM (doneM b ds) es = doneM b (ds ++ es) := by
  have ha : ∀ d ∈ ds ++ es, d.ok := fun d h => (List.mem_append.mp h).elim (hd d) (he d)
  refine good_ext (done_good (done_good hb hd) he) (done_good hb ha) fun s => ?_
  rw [num_done (done_good hb hd) he, num_done hb hd, num_done hb ha, numD_append]
theorem done_nil {b : Bk} (hb : Good b) : doneM b [] = b :=
  good_ext (done_good hb fun _ h => by cases h) hb fun s => by rw [num_done hb fun _ h => by cases h]; rfl
/-- by hand -/
def lstep (b : Bk) (d : Dd) : Bk := b.filter (fun p => !decide (p.1 = d.name)) ++ (if 0 < d.val (num b d.name) then [(d.name, d.val (num b d.name))] else [])
def leP (p q : Str × Int) : Bool := leD (.tuple [.str p.1, .int p.2]) (.tuple [.str q.1, .int q.2])
theorem leP_T : W.TotalLe leP := ⟨fun _ _ _ h1 h2 => leD_total.trans _ _ _ h1 h2, fun _ _ => leD_total.total _ _⟩
theorem leP_S {p q : Str × Int} (h : leP p q = true) : leS p.1 q.1 = true := by
  by_cases e : p.1 = q.1
  · rw [e]; exact leS_refl _
  · rcases leS_total p.1 q.1 with h1 | h1
    · exact h1
    · exfalso
      have ne : (Sum.inr q.1.cps.toList : Int ⊕ List Nat) ≠ .inr p.1.cps.toList := fun z => by
        injection z with z; exact e (str_ext z).symm
      have h2 : (!PyProof.Rows.lexLt PyProof.Rows.itemOrd (W.keyToks (.tuple [.str q.1, .int q.2])) (W.keyToks (.tuple [.str p.1, .int p.2]))) = true := h
      have h3 : (!PyProof.Rows.lexLt PyProof.Rows.itemOrd [.inr p.1.cps.toList] [.inr q.1.cps.toList]) = true := h1
      simp only [W.keyToks, W.keyToksAll, List.cons_append, List.nil_append] at h2
      rw [Bool.not_eq_true'] at h2 h3
      rw [PyProof.Rows.lex_self (O := PyProof.Rows.itemOrd), W.lex_atom ne] at h2
      have := (PyProof.Rows.listOrd PyProof.Rows.itemOrd).total [.inr q.1.cps.toList] [.inr p.1.cps.toList] h2 h3
      injection this with this
      exact ne this
def ldoneM (b : Bk) (ds : List Dd) : Bk := (ds.foldl lstep b).mergeSort leP
theorem alook_filter {b : Bk} {n s : Str} : alook (b.filter fun p => !decide (p.1 = n)) s = if s = n then none else alook b s := by
  induction b with
  | nil => simp
  | cons p b ih =>
    rw [List.filter_cons]
    by_cases h : p.1 = n
    · simp only [h, decide_true, Bool.not_true, Bool.false_eq_true, if_false, ih, alook_cons]
      by_cases h2 : s = n
      · simp [h2]
      · have : ¬ n = s := fun e => h2 e.symm
        simp [h2, this]
    · simp only [h, decide_false, Bool.not_false, if_true, alook_cons, ih]
      by_cases h2 : s = n
      · simp [h2, h]
      · simp [h2]
theorem num_lstep {b : Bk} {d : Dd} (hd : d.ok) {s : Str} : num (lstep b d) s = if s = d.name then d.val (num b s) else num b s := by
  have hr := Dd.val_rng hd (num b d.name)
  have hl : num (lstep b d) s = ((alook (b.filter fun p => !decide (p.1 = d.name)) s).or (alook (if 0 < d.val (num b d.name) then [(d.name, d.val (num b d.name))] else []) s)).getD 0 := by
    unfold lstep; unfold num; rw [alook_append]
  rw [hl, alook_filter]
  by_cases h : s = d.name
  · subst h
    simp only [if_true, Option.none_or]
    by_cases hp : 0 < d.val (num b d.name)
    · rw [if_pos hp, alook_cons]; simp
    · rw [if_neg hp]; simp; omega
  · simp only [if_neg h]
    have : alook (if 0 < d.val (num b d.name) then [(d.name, d.val (num b d.name))] else []) s = none := by
      split
      · rw [alook_cons, if_neg (fun e => h e.symm)]; rfl
      · rfl
    rw [this]
    unfold num
    simp
theorem lstep_inv {b : Bk} {d : Dd} (hd : d.ok) (nd : (b.map Prod.fst).Nodup) (hr : ∀ p ∈ b, 1 ≤ p.2 ∧ p.2 ≤ 3) : ((lstep b d).map Prod.fst).Nodup ∧ ∀ p ∈ lstep b d, 1 ≤ p.2 ∧ p.2 ≤ 3 := by
  have hv := Dd.val_rng hd (num b d.name)
  constructor
  · unfold lstep
    rw [List.map_append, List.nodup_append]
    refine ⟨nd.sublist (List.Sublist.map _ List.filter_sublist), ?_, fun x hx y hy e => ?_⟩
    · split <;> simp
    · subst e
      obtain ⟨p, hp, rfl⟩ := List.mem_map.mp hx
      have h1 := (List.mem_filter.mp hp).2
      split at hy
      · have : p.1 = d.name := by simpa using hy
        simp [this] at h1
      · cases hy
  · intro p hp
    rcases List.mem_append.mp hp with h | h
    · exact hr p (List.mem_filter.mp h).1
    · split at h
      · rename_i h0
        have : p = (d.name, d.val (num b d.name)) := by simpa using h
        subst this
        exact ⟨by show 1 ≤ d.val _; omega, hv.2⟩
      · cases h
theorem lsteps_inv {ds : List Dd} : ∀ {b : Bk}, (∀ d ∈ ds, d.ok) → (b.map Prod.fst).Nodup → (∀ p ∈ b, 1 ≤ p.2 ∧ p.2 ≤ 3) → ((ds.foldl lstep b).map Prod.fst).Nodup ∧ (∀ p ∈ ds.foldl lstep b, 1 ≤ p.2 ∧ p.2 ≤ 3) ∧ num (ds.foldl lstep b) = numD (num b) ds := by
  induction ds with
  | nil => intro b _ h1 h2; exact ⟨h1, h2, rfl⟩
  | cons d ds ih =>
    intro b hd h1 h2
    obtain ⟨a1, a2⟩ := lstep_inv (hd d (.head _)) h1 h2
    obtain ⟨b1, b2, b3⟩ := ih (fun e he => hd e (.tail _ he)) a1 a2
    refine ⟨b1, b2, ?_⟩
    show num (ds.foldl lstep (lstep b d)) = numD (fun s => if s = d.name then d.val (num b s) else num b s) ds
    rw [b3]
    congr 1
    funext s
    exact num_lstep (hd d (.head _))
theorem num_perm {b c : Bk} (hp : b.Perm c) (nd : (b.map Prod.fst).Nodup) (s : Str) : num b s = num c s := by
  have nd2 : (c.map Prod.fst).Nodup := (hp.map Prod.fst).nodup_iff.mp nd
  unfold num
  cases e : alook b s with
  | some v => rw [alook_mem nd2 (hp.mem_iff.mp (alook_some e))]
  | none =>
    cases e2 : alook c s with
    | none => rfl
    | some v => rw [alook_mem nd (hp.mem_iff.mpr (alook_some e2))] at e; cases e
theorem ldone_eq {b : Bk} {ds : List Dd} (hb : Good b) (hd : ∀ d ∈ ds, d.ok) : ldoneM b ds = doneM b ds := by
  obtain ⟨h1, h2, h3⟩ := lsteps_inv hd hb.keys hb.rng
  have hp : (ldoneM b ds).Perm (ds.foldl lstep b) := List.mergeSort_perm _ _
  have nd : ((ldoneM b ds).map Prod.fst).Nodup := (hp.map Prod.fst).nodup_iff.mpr h1
  have g : Good (ldoneM b ds) := by
    refine ⟨?_, fun p hpp => h2 p (hp.mem_iff.mp hpp)⟩
    have hs : (ldoneM b ds).Pairwise fun p q => leP p q = true := List.pairwise_mergeSort (le := leP) (fun a b c h1 h2 => leP_T.trans a b c h1 h2) (fun a b => by rw [Bool.or_eq_true]; exact leP_T.total a b) _
    have hn : (ldoneM b ds).Pairwise fun p q => p.1 ≠ q.1 := List.pairwise_map.mp nd
    exact (hs.and hn).imp fun h => ⟨leP_S h.1, h.2⟩
  refine good_ext g (done_good hb hd) fun s => ?_
  rw [num_perm hp nd, h3, num_done hb hd]
end BT
set_option Elab.async false
set_option linter.all false
/-! BTDf: shared functions, compiled (printed by shared.py) -/
namespace BT.Q
open BT PySem
def m_done : MFun := ⟨2, 6, [2], [
  .setL 2 (.blt .dict [(.var 0)]),
  .for_ (.tup [3, 4, 5]) .plain [(.var 1)] [
    .iff (.cmp .eq (.var 3) (.str "add")) [
      .set 5 (.blt .max2 [(.int (0)), (.blt .min2 [(.int (3)), (.bin .add (.mth .get (.lin 2) [(.var 4), (.int (0))]) (.var 5))])])] [],
    .put 2 (.var 4) (.var 5)],
  .ret (.blt .tuple [(.lc [4] (.name 4) .plain [(.blt .sorted [(.lin 2)])] (.cmp .gt (.idx (.lin 2) (.var 4)) (.int (0))) (.tup [(.var 4), (.idx (.lin 2) (.var 4))]))])]⟩
def m_holds : MFun := ⟨3, 3, [], [
  .iff (.cmp .eq (.idx (.var 0) (.int (0))) (.str "has")) [
    .ret (.cmp .ge (.mth .get (.blt .dict [(.var 1)]) [(.idx (.var 0) (.int (1))), (.int (0))]) (.idx (.var 0) (.int (2))))] [],
  .iff (.cmp .eq (.idx (.var 0) (.int (0))) (.str "been")) [
    .ret (.cmp .isin (.idx (.var 0) (.int (1))) (.var 2))] [],
  .iff (.cmp .eq (.idx (.var 0) (.int (0))) (.str "not")) [
    .ret (.nt (.call "holds" [(.idx (.var 0) (.int (1))), (.var 1), (.var 2)]))] [],
  .iff (.cmp .eq (.idx (.var 0) (.int (0))) (.str "and")) [
    .ret (.and (.call "holds" [(.idx (.var 0) (.int (1))), (.var 1), (.var 2)]) (.call "holds" [(.idx (.var 0) (.int (2))), (.var 1), (.var 2)]))] [],
  .ret (.or (.call "holds" [(.idx (.var 0) (.int (1))), (.var 1), (.var 2)]) (.call "holds" [(.idx (.var 0) (.int (2))), (.var 1), (.var 2)]))]⟩
def m__law_mix : MFun := ⟨3, 4, [], [
  .set 3 (.bin .mod (.bin .mul (.var 0) (.int (48271))) (.var 1)),
  .ret (.bin .mod (.bin .mod (.bin .mul (.var 3) (.bin .add (.var 3) (.int (7)))) (.var 1)) (.var 2))]⟩
def m__law_same : MFun := ⟨2, 4, [], [
  .iff (.isi (.var 1) [.ttup]) [
    .iff (.or (.nt (.isi (.var 0) [.ttup])) (.cmp .ne (.blt .len [(.var 0)]) (.blt .len [(.var 1)]))) [
      .ret (.bl false)] [],
    .ret (.blt .all [(.lc [2, 3] (.tup [2, 3]) .zip [(.var 0), (.var 1)] (.bl true) (.call "_law_same" [(.var 2), (.var 3)]))])] [],
  .iff (.cmp .is_ (.var 1) .non) [
    .ret (.cmp .is_ (.var 0) .non)] [],
  .iff (.or (.isi (.var 1) [.tbool]) (.isi (.var 0) [.tbool])) [
    .ret (.and (.isi (.var 1) [.tbool]) (.and (.isi (.var 0) [.tbool]) (.cmp .eq (.var 0) (.var 1))))] [],
  .ret (.and (.isi (.var 0) [.tint, .tstr]) (.cmp .eq (.var 0) (.var 1)))]⟩
def m__law_deeds : MFun := ⟨1, 5, [1], [
  .setL 1 (.lst []),
  .for_ (.name 2) .range1 [(.call "_law_mix" [(.var 0), (.int (9931)), (.int (3))])] [
    .set 3 (.bin .add (.var 0) (.bin .mul (.int (7)) (.var 2))),
    .set 4 (.idx (.tup [(.str "x"), (.str "y")]) (.call "_law_mix" [(.var 3), (.int (9929)), (.int (2))])),
    .iff (.cmp .eq (.call "_law_mix" [(.var 3), (.int (9923)), (.int (3))]) (.int (0))) [
      .app 1 (.tup [(.str "set"), (.var 4), (.call "_law_mix" [(.var 3), (.int (9907)), (.int (4))])])] [
      .app 1 (.tup [(.str "add"), (.var 4), (.bin .sub (.call "_law_mix" [(.var 3), (.int (9901)), (.int (5))]) (.int (2)))])]],
  .ret (.blt .tuple [(.lin 1)])]⟩
def m__law_book : MFun := ⟨1, 4, [1], [
  .setL 1 (.lst []),
  .for_ (.name 2) .plain [(.tup [(.str "x"), (.str "y")])] [
    .set 3 (.call "_law_mix" [(.bin .add (.bin .add (.var 0) (.bin .mul (.blt .len [(.lin 1)]) (.int (3)))) (.blt .int [(.cmp .eq (.var 2) (.str "y"))])), (.int (9887)), (.int (4))]),
    .iff (.cmp .gt (.var 3) (.int (0))) [
      .app 1 (.tup [(.var 2), (.var 3)])] []],
  .ret (.blt .tuple [(.lin 1)])]⟩
def m__law_done : MFun := ⟨2, 7, [], [
  .for_ (.tup [2, 3, 4]) .plain [(.var 1)] [
    .set 5 (.idx (.bin .add (.lc [6] (.name 6) .plain [(.var 0)] (.cmp .eq (.idx (.var 6) (.int (0))) (.var 3)) (.idx (.var 6) (.int (1)))) (.lst [(.int (0))])) (.int (0))),
    .iff (.cmp .eq (.var 2) (.str "add")) [
      .set 4 (.idx (.blt .sorted [(.lst [(.int (0)), (.bin .add (.var 5) (.var 4)), (.int (3))])]) (.int (1)))] [],
    .set 0 (.bin .add (.lc [6] (.name 6) .plain [(.var 0)] (.cmp .ne (.idx (.var 6) (.int (0))) (.var 3)) (.var 6)) (.bin .mul (.lst [(.tup [(.var 3), (.var 4)])]) (.blt .int [(.cmp .gt (.var 4) (.int (0)))])))],
  .ret (.blt .tuple [(.blt .sorted [(.var 0)])])]⟩
def m__law_test : MFun := ⟨2, 3, [], [
  .set 2 (.call "_law_mix" [(.var 0), (.int (9973)), (.int (7))]),
  .iff (.or (.cmp .lt (.var 2) (.int (3))) (.cmp .lt (.var 1) (.int (2)))) [
    .iff (.cmp .eq (.bin .mod (.var 2) (.int (2))) (.int (0))) [
      .ret (.tup [(.str "has"), (.idx (.tup [(.str "x"), (.str "y")]) (.call "_law_mix" [(.var 0), (.int (9967)), (.int (2))])), (.bin .add (.int (1)) (.call "_law_mix" [(.var 0), (.int (9949)), (.int (3))]))])] [],
    .ret (.tup [(.str "been"), (.idx (.tup [(.str "a"), (.str "b"), (.str "c"), (.str "d")]) (.call "_law_mix" [(.var 0), (.int (9941)), (.int (4))]))])] [],
  .iff (.cmp .eq (.var 2) (.int (3))) [
    .ret (.tup [(.str "not"), (.call "_law_test" [(.bin .add (.var 0) (.int (1))), (.bin .sub (.var 1) (.int (1)))])])] [],
  .ret (.tup [(.idx (.tup [(.str "and"), (.str "or")]) (.bin .mod (.var 2) (.int (2)))), (.call "_law_test" [(.bin .add (.var 0) (.int (2))), (.bin .sub (.var 1) (.int (1)))]), (.call "_law_test" [(.bin .add (.var 0) (.int (5))), (.bin .sub (.var 1) (.int (1)))])])]⟩
def m__law_holds : MFun := ⟨3, 7, [], [
  .iff (.cmp .eq (.idx (.var 0) (.int (0))) (.str "has")) [
    .ret (.cmp .ne (.lc [3, 4] (.tup [3, 4]) .plain [(.var 1)] (.and (.cmp .eq (.var 3) (.idx (.var 0) (.int (1)))) (.cmp .ge (.var 4) (.idx (.var 0) (.int (2))))) (.int (1))) (.lst []))] [],
  .iff (.cmp .eq (.idx (.var 0) (.int (0))) (.str "been")) [
    .ret (.cmp .isin (.idx (.var 0) (.int (1))) (.var 2))] [],
  .set 5 (.lc [6] (.name 6) .plain [(.slc (.var 0) (.int (1)) .non)] (.bl true) (.call "_law_holds" [(.var 6), (.var 1), (.var 2)])),
  .iff (.cmp .eq (.idx (.var 0) (.int (0))) (.str "not")) [
    .ret (.nt (.idx (.var 5) (.int (0))))] [],
  .ret (.idx (.lst [(.bl false), (.bl true)]) (.blt .int [(.cmp .gt (.mth .count (.var 5) [(.bl true)]) (.blt .int [(.cmp .eq (.idx (.var 0) (.int (0))) (.str "and"))]))]))]⟩
def m_begun : MFun := ⟨1, 1, [], [
  .ret (.tup [(.idx (.idx (.var 0) (.int (0))) (.int (0))), (.tup []), (.tup [(.idx (.idx (.var 0) (.int (0))) (.int (0)))]), (.tup [])])]⟩
def m_place_of : MFun := ⟨2, 3, [], [
  .ret (.idx (.lc [2] (.name 2) .plain [(.var 0)] (.cmp .eq (.idx (.var 2) (.int (0))) (.var 1)) (.slc (.var 2) (.int (1)) .non)) (.int (0)))]⟩
def m_choices_at : MFun := ⟨2, 2, [], [
  .iff (.cmp .is_ (.idx (.var 1) (.int (0))) .non) [
    .ret (.tup [])] [],
  .ret (.idx (.call "place_of" [(.var 0), (.idx (.var 1) (.int (0)))]) (.int (1)))]⟩
def m_is_open : MFun := ⟨3, 12, [], [
  .unp [3, 4, 5, 6, 7] (.var 2),
  .unp [8, 9, 10, 11] (.var 0),
  .iff (.and (.var 7) (.cmp .isin (.tup [(.var 8), (.var 1)]) (.var 11))) [
    .ret (.bl false)] [],
  .ret (.or (.cmp .is_ (.var 4) .non) (.call "holds" [(.var 4), (.var 9), (.var 10)]))]⟩
def m_open_at : MFun := ⟨2, 4, [], [
  .ret (.blt .tuple [(.lc [2, 3] (.tup [2, 3]) .enum [(.call "choices_at" [(.var 0), (.var 1)])] (.call "is_open" [(.var 1), (.var 2), (.var 3)]) (.var 2))])]⟩
def m_shown : MFun := ⟨2, 5, [], [
  .iff (.cmp .is_ (.idx (.var 1) (.int (0))) .non) [
    .ret .non] [],
  .unp [2, 3] (.call "place_of" [(.var 0), (.idx (.var 1) (.int (0)))]),
  .ret (.tup [(.var 2), (.blt .tuple [(.lc [4] (.name 4) .plain [(.call "open_at" [(.var 0), (.var 1)])] (.bl true) (.idx (.idx (.var 3) (.var 4)) (.int (0))))])])]⟩
def m_after : MFun := ⟨3, 12, [], [
  .iff (.cmp .notin (.var 2) (.call "open_at" [(.var 0), (.var 1)])) [
    .raise "NoChoice"] [],
  .unp [3, 4, 5, 6, 7] (.idx (.call "choices_at" [(.var 0), (.var 1)]) (.var 2)),
  .unp [8, 9, 10, 11] (.var 1),
  .iff (.var 7) [
    .set 11 (.blt .tuple [(.blt .sorted [(.bin .add (.var 11) (.tup [(.tup [(.var 8), (.var 2)])]))])])] [],
  .iff (.and (.cmp .isnot (.var 6) .non) (.cmp .notin (.var 6) (.var 10))) [
    .set 10 (.blt .tuple [(.blt .sorted [(.bin .add (.var 10) (.tup [(.var 6)]))])])] [],
  .ret (.tup [(.var 6), (.call "done" [(.var 9), (.var 5)]), (.var 10), (.var 11)])]⟩
def m__law_places_of : MFun := ⟨1, 3, [], [
  .iff (.cmp .isin (.idx (.var 0) (.int (0))) (.tup [(.str "has"), (.str "been")])) [
    .ret (.ife (.cmp .eq (.idx (.var 0) (.int (0))) (.str "been")) (.lst [(.idx (.var 0) (.int (1)))]) (.lst []))] [],
  .set 1 (.lst []),
  .for_ (.name 2) .plain [(.slc (.var 0) (.int (1)) .non)] [
    .set 1 (.bin .add (.var 1) (.call "_law_places_of" [(.var 2)]))],
  .ret (.var 1)]⟩
def m__law_choice : MFun := ⟨2, 7, [], [
  .set 2 .non,
  .iff (.cmp .eq (.call "_law_mix" [(.var 0), (.int (9883)), (.int (3))]) (.int (0))) [
    .set 2 (.call "_law_test" [(.bin .add (.var 0) (.int (1))), (.int (2))]),
    .iff (.lc [3] (.name 3) .plain [(.call "_law_places_of" [(.var 2)])] (.cmp .notin (.var 3) (.var 1)) (.var 3)) [
      .set 2 (.tup [(.str "not"), (.tup [(.str "has"), (.str "x"), (.int (1))])])] []] [],
  .set 4 (.idx (.bin .add (.var 1) (.lst [.non])) (.call "_law_mix" [(.var 0), (.int (9871)), (.bin .add (.blt .len [(.var 1)]) (.int (1)))])),
  .set 5 (.idx (.tup [(.str "yes"), (.str "no"), (.str "why?"), (.str "go on")]) (.call "_law_mix" [(.var 0), (.int (9859)), (.int (4))])),
  .set 6 (.tup []),
  .iff (.cmp .eq (.call "_law_mix" [(.var 0), (.int (9857)), (.int (3))]) (.int (0))) [
    .set 6 (.call "_law_deeds" [(.bin .add (.var 0) (.int (2)))])] [],
  .ret (.tup [(.var 5), (.var 2), (.var 6), (.var 4), (.cmp .eq (.call "_law_mix" [(.var 0), (.int (9851)), (.int (3))]) (.int (0)))])]⟩
def m__law_talk : MFun := ⟨2, 9, [3], [
  .set 2 (.slc (.lst [(.str "a"), (.str "b"), (.str "c"), (.str "d")]) .non (.bin .add (.int (1)) (.call "_law_mix" [(.var 0), (.int (9839)), (.var 1)]))),
  .setL 3 (.lst []),
  .for_ (.tup [4, 5]) .enum [(.var 2)] [
    .set 6 (.bin .add (.var 0) (.bin .mul (.int (31)) (.var 4))),
    .set 7 (.lc [8] (.name 8) .range1 [(.call "_law_mix" [(.var 6), (.int (9833)), (.int (4))])] (.bl true) (.call "_law_choice" [(.bin .add (.bin .add (.var 6) (.bin .mul (.int (11)) (.var 8))) (.int (3))), (.var 2)])),
    .app 3 (.tup [(.var 5), (.idx (.tup [(.str "hello"), (.str "well"), (.str "so be it")]) (.call "_law_mix" [(.var 6), (.int (9829)), (.int (3))])), (.blt .tuple [(.var 7)])])],
  .ret (.blt .tuple [(.lin 3)])]⟩
def m__law_choices : MFun := ⟨2, 5, [], [
  .for_ (.tup [2, 3, 4]) .plain [(.var 0)] [
    .iff (.cmp .eq (.var 2) (.idx (.var 1) (.int (0)))) [
      .ret (.var 4)] []],
  .ret (.tup [])]⟩
def m__law_open : MFun := ⟨2, 9, [2], [
  .setL 2 (.lst []),
  .for_ (.nest 3 [4, 5, 6, 7, 8]) .enum [(.call "_law_choices" [(.var 0), (.var 1)])] [
    .iff (.and (.or (.cmp .is_ (.var 5) .non) (.call "_law_holds" [(.var 5), (.idx (.var 1) (.int (1))), (.idx (.var 1) (.int (2)))])) (.or (.nt (.var 8)) (.cmp .notin (.tup [(.idx (.var 1) (.int (0))), (.var 3)]) (.idx (.var 1) (.int (3)))))) [
      .app 2 (.var 3)] []],
  .ret (.blt .tuple [(.lin 2)])]⟩
def m__law_begun : MFun := ⟨1, 1, [], [
  .ret (.tup [(.idx (.idx (.var 0) (.int (0))) (.int (0))), (.tup []), (.tup [(.idx (.idx (.var 0) (.int (0))) (.int (0)))]), (.tup [])])]⟩
end BT.Q
set_option Elab.async false
set_option linter.all false
set_option maxRecDepth 100000
set_option maxHeartbeats 4000000
/-! BTG: what shared functions compute: tests, deeds, books. -/
namespace BT
open PySem
class Has (T : Tab) (f : Str) (m : outParam MFun) : Prop where
  eq : T.lookup f = some m
theorem call_has {T : Tab} {f : Str} {m : MFun} [h : Has T f m] {wf k : Nat} {nat : CallF} {ds : List D} : callN T wf nat (k + 1) f ds = runF (callN T wf nat k) wf m ds := callN_at h.eq ds
theorem ofString_inj {a b : String} : (Str.ofString a = Str.ofString b) ↔ a = b := by
  constructor
  · intro h
    rw [Str.ofString_eq_toList, Str.ofString_eq_toList] at h
    simp only [Str.mk.injEq] at h
    have h2 : a.toList.map Char.toNat = b.toList.map Char.toNat := by simpa using h
    have h3 : a.toList = b.toList := List.map_inj_right (fun x y e => Char.ext (UInt32.toNat_inj.mp e)) |>.mp h2
    exact String.ext_iff.mpr h3
  · intro h; rw [h]
theorem ofString_beq {a b : String} : (Str.ofString a == Str.ofString b) = (a == b) := by
  rw [Bool.eq_iff_iff, beq_iff_eq, beq_iff_eq]; exact ofString_inj
theorem forN_fold {σ α : Type} {tg : Tg} {body : En → F} (enc : α → D) (E : σ → En → Prop) (step : σ → α → σ) (xs : List α) (s : σ) (r : En) (h0 : E s r)
    (hs : ∀ pre x post r, xs = pre ++ x :: post → E (pre.foldl step s) r → ∃ r1 r2, asg tg (enc x) r = .ok r1 ∧ (body r1 = .nx r2 ∨ body r1 = .ct r2) ∧ E (step (pre.foldl step s) x) r2) : ∃ r', forN tg body (xs.map enc) r = .nx r' ∧ E (xs.foldl step s) r' := by
  have key : ∀ (post pre : List α) (r : En), xs = pre ++ post → E (pre.foldl step s) r → ∃ r', forN tg body (post.map enc) r = .nx r' ∧ E (xs.foldl step s) r' := by
    intro post
    induction post with
    | nil => intro pre r e h; rw [e]; exact ⟨r, rfl, by simpa using h⟩
    | cons x post ih =>
      intro pre r e h
      obtain ⟨r1, r2, e1, e2, h2⟩ := hs pre x post r e h
      obtain ⟨r', e3, h3⟩ := ih (pre ++ [x]) r2 (by rw [e]; simp) (by rw [List.foldl_append]; exact h2)
      refine ⟨r', ?_, h3⟩
      rw [List.map_cons]
      unfold forN
      rw [e1, R.toF_ok]
      rcases e2 with e2 | e2
      · rw [e2]; exact e3
      · rw [e2]; exact e3
  exact key xs [] r rfl h0
/-! ### books -/
def pD (p : Str × Int) : D := .tuple [.str p.1, .int p.2]
def bkD (b : Bk) : D := .tuple (b.map pD)
def bnD (ss : List Str) : D := .tuple (ss.map .str)
def Dd.enc (d : Dd) : D := .tuple [.str (if d.add then "add" else "set"), .str d.name, .int d.n]
def ddD (ds : List Dd) : D := .tuple (ds.map Dd.enc)
theorem pairs_bk : ∀ {b : Bk}, pairsOf (b.map pD) = some (dE .str .int b)
  | [] => rfl
  | p :: b => by rw [List.map_cons]; simp only [pD, pairsOf]; rw [pairs_bk]; rfl
theorem dictFrom_go {b : Bk} : ∀ {c : Bk}, ((c ++ b).map Prod.fst).Nodup → (dE PyData.str PyData.int b).foldl (fun acc kv => dput acc kv.1 kv.2) (dE .str .int c) = dE .str .int (c ++ b) := by
  induction b with
  | nil => intro c _; simp [dE]
  | cons p b ih =>
    intro c nd
    have h1 : aput c p.1 p.2 = c ++ [p] := by
      unfold aput
      rw [if_neg]
      intro z
      rw [ahas_iff] at z
      rw [List.map_append, List.nodup_append] at nd
      exact nd.2.2 _ z _ (by simp) rfl
    show (dE PyData.str PyData.int b).foldl _ (dput (dE .str .int c) (.str p.1) (.int p.2)) = _
    rw [dput_E (fun _ _ => eqvSS), h1, ih (by simpa using nd)]
    simp
theorem fit_dE {β : Type} {v : β → D} {l : List (Str × β)} : fitAll (dE .str v l) = true := by
  unfold fitAll
  rw [Bool.or_eq_true]; left
  unfold dE
  rw [List.all_map, List.all_eq_true]
  intro p _; rfl
theorem dict_bk {b : Bk} (nd : (b.map Prod.fst).Nodup) : bltF .dict [bkD b] = .ok (.dict (dE .str .int b)) := by
  show (R.ofO (pairsOf (b.map pD))).bind _ = _
  rw [pairs_bk, ofO_some, R.bind_ok, fit_dE, gd_true]
  unfold dictFrom
  rw [show ([] : List (D × D)) = dE .str .int [] from rfl, dictFrom_go (c := []) (by simpa using nd)]
  rfl
theorem get_num {b : Bk} {s : Str} : bltF .get [.dict (dE .str .int b), .str s, .int 0] = .ok (.int (num b s)) := by
  show R.gd (keyFits _ (.str s)) _ = _
  rw [fitsS, gd_true, dfind_E fun _ _ => eqvSS]
  unfold num
  cases alook b s <;> rfl
theorem idx_num {b : Bk} {s : Str} (h : s ∈ b.map Prod.fst) : idxF (.dict (dE .str .int b)) (.str s) = .ok (.int (num b s)) := by
  show R.gd (keyFits _ (.str s)) _ = _
  rw [fitsS, gd_true, dfind_E fun _ _ => eqvSS]
  have := alook_isSome (l := b) (a := s)
  rw [ahas_iff.mpr h] at this
  obtain ⟨v, e⟩ := Option.isSome_iff_exists.mp this
  unfold num
  rw [e]; rfl
theorem sort_keys {β : Type} {v : β → D} {l : List (Str × β)} (h : l.length < 64) : bltF .sorted [.dict (dE .str v l)] = .ok (.list (((l.map Prod.fst).mergeSort leS).map .str)) := by
  show R.gd _ _ = _
  have h1 : ((dE .str v l).all fun kv => isStrD kv.1) = true := by
    unfold dE; rw [List.all_map, List.all_eq_true]; intro p _; rfl
  have h2 : (dE .str v l).length < 64 := by simpa [dE] using h
  rw [h1, decide_eq_true h2]
  have h3 : keysOf (dE .str v l) = (l.map Prod.fst).map .str := by
    unfold keysOf dE; rw [List.map_map, List.map_map]; rfl
  rw [h3, List.map_mergeSort (r := leS) (s := leD) (f := (.str : Str → D)) (fun a _ b _ => rfl)]
  rfl
theorem put_num {b : Bk} {s : Str} {v : Int} (h : b.length < LIM) : putF (.dict (dE .str .int b)) (.str s) (.int v) = .ok (.dict (dE .str .int (aput b s v))) := by
  show R.gd (keyFits _ (.str s) && decide ((dE .str .int b).length < LIM)) _ = _
  rw [fitsS, decide_eq_true (by simpa [dE] using h)]
  show R.ok _ = _
  rw [dput_E fun _ _ => eqvSS]
section
variable {T : Tab} {wf k : Nat} {nat : CallF}
theorem lim60 {n : Nat} (h : n < 100000) : n < LIM := by unfold LIM; omega
theorem max2I {i j : Int} : bltF .max2 [.int i, .int j] = .ok (.int (max i j)) := by
  show R.ok (PyData.int (if j > i then j else i)) = _
  congr 2
  split <;> omega
theorem min2I {i j : Int} : bltF .min2 [.int i, .int j] = .ok (.int (min i j)) := by
  show R.ok (PyData.int (if j < i then j else i)) = _
  congr 2
  split <;> omega
theorem done_ok [Has T "done" Q.m_done] {b : Bk} {ds : List Dd} (nd : (b.map Prod.fst).Nodup) (hl : b.length + ds.length < 64) (hk : 1 ≤ k) : callN T wf nat k "done" [bkD b, ddD ds] = .ok (bkD (doneM b ds)) := by
  obtain ⟨k, rfl⟩ : ∃ k', k = k' + 1 := ⟨k - 1, by omega⟩
  rw [call_has, run_ok rfl]
  have ha : ("add" : Str) ≠ "set" := by decide +kernel
  obtain ⟨r', e1, y3, y4, y5, rfl⟩ := forN_fold (tg := .tup [3, 4, 5]) (body := fun r1 => evSs (callN T wf nat k) wf (fb (Q.m_done.body.getD 1 .pass)) r1) Dd.enc (fun h r => ∃ y3 y4 y5, r = [some (bkD b), some (ddD ds), some (.dict (dE .str .int h)), y3, y4, y5]) stepD ds b
    [some (bkD b), some (ddD ds), some (.dict (dE .str .int b)), none, none, none] ⟨_, _, _, rfl⟩ (fun pre d post r e hr => by
      obtain ⟨y3, y4, y5, rfl⟩ := hr
      have hln : (pre.foldl stepD b).length < LIM := lim60 (by
        have := steps_len (ds := pre) (h := b)
        rw [e, List.length_append] at hl
        omega)
      generalize pre.foldl stepD b = h at hln
      refine ⟨_, _, rfl, .inl ?_, some (.str (if d.add then "add" else "set")), some (.str d.name), some (.int (d.val (num h d.name))), rfl⟩
      cases hd : d.add with
      | true => simp [Q.m_done, fb, get_num, put_num hln, Dd.val, hd, max2I, min2I, stepD, clamp]
      | false => simp [Q.m_done, fb, put_num hln, Dd.val, hd, stepD, ha.symm])
  have hln : (ds.foldl stepD b).length < 64 := by
    have := steps_len (ds := ds) (h := b)
    omega
  have hlc : ∀ (f : D → R (Option D)), (∀ s, s ∈ (ds.foldl stepD b).map Prod.fst → f (.str s) = .ok (if 0 < num (ds.foldl stepD b) s then some (pD (s, num (ds.foldl stepD b) s)) else none)) → lcN f ((((ds.foldl stepD b).map Prod.fst).mergeSort leS).map .str) = .ok ((doneM b ds).map pD) := fun f hf => by
    rw [lcN_mapO (h := fun s => if 0 < num (ds.foldl stepD b) s then some (pD (s, num (ds.foldl stepD b) s)) else none) fun s hs => hf s ((List.mergeSort_perm _ _).mem_iff.mp hs)]
    unfold doneM canon
    rw [List.map_filterMap]
    congr 2
    funext s
    split <;> rfl
  have hb : Q.m_done.body = [.setL 2 (.blt .dict [.var 0]), .for_ (.tup [3, 4, 5]) .plain [.var 1] (fb (Q.m_done.body.getD 1 .pass)), Q.m_done.body.getD 2 .pass] := rfl
  rw [hb]
  simp only [eSs_c, eS_setL, ev_blt, evs_c, evs_n, ev_var, startE, Q.m_done, List.map_cons, List.map_nil, List.length_cons, List.length_nil, List.cons_append, List.nil_append, List.replicate, get_z, R.bind_ok, dict_bk nd, R.toF_ok, put_s, put_z, F.then_nx, eS_for_, get_s]
  show (((itemsF .plain [ddD ds]).toF _ _).then _).res = _
  rw [show itemsF .plain [ddD ds] = .ok (ds.map Dd.enc) from rfl, R.toF_ok]
  have e2 := e1
  simp only [Q.m_done] at e2
  rw [e2]
  simp only [F.then_nx, List.getD_cons_succ, List.getD_cons_zero, eS_ret, ev_blt, evs_c, evs_n, ev_lc, ev_lin, get_s, get_z, R.bind_ok, sort_keys hln, it_plainL]
  rw [hlc]
  · rfl
  · intro s hs
    have := idx_num hs
    by_cases hp : 0 < num (ds.foldl stepD b) s <;> simp [this, hp, pD]
end
end BT
set_option Elab.async false
set_option linter.all false
set_option maxRecDepth 100000
set_option maxHeartbeats 4000000
/-! BTG2: what shared functions compute: by hand deeds; tests; sameness. -/
namespace BT
open PySem
theorem leI {a b : Int} : leD (.int a) (.int b) = decide (a ≤ b) := by
  by_cases h : a ≤ b
  · rw [decide_eq_true h]
    rcases leD_total.total (.int a) (.int b) with z | z
    · exact z
    · have e : (!PyProof.Rows.lexLt PyProof.Rows.itemOrd [.inl a] [.inl b]) = true := z
      by_cases hab : a = b
      · subst hab; exact z
      · rw [Bool.not_eq_true'] at e
        have : PyProof.Rows.lexLt PyProof.Rows.itemOrd [.inl a] [.inl b] = true := by
          have hlt : decide (a < b) = true := decide_eq_true (by omega)
          simp [PyProof.Rows.lexLt, PyProof.Rows.itemOrd, PyProof.Rows.itemLt, hlt]
          try omega
        rw [this] at e; cases e
  · rw [decide_eq_false h]
    show (!PyProof.Rows.lexLt PyProof.Rows.itemOrd [.inl b] [.inl a]) = false
    have : PyProof.Rows.lexLt PyProof.Rows.itemOrd [.inl b] [.inl a] = true := by
      have hlt : decide (b < a) = true := decide_eq_true (by omega)
      simp [PyProof.Rows.lexLt, PyProof.Rows.itemOrd, PyProof.Rows.itemLt, hlt]
      try omega
    rw [this]; rfl
theorem sort3 {v : Int} : ∃ xs, bltF .sorted [.list [.int 0, .int v, .int 3]] = .ok (.list xs) ∧ atOf xs 1 = some (.int (clamp v)) := by
  have hok : sortOk [.int 0, .int v, .int 3] = true := by rfl
  refine ⟨_, by show R.gd _ _ = _; rw [hok]; rfl, ?_⟩
  have anti : ∀ a b : D, a ∈ ([.int 0, .int v, .int 3] : List D) → b ∈ ([.int 0, .int v, .int 3] : List D) → leD a b = true → leD b a = true → a = b := fun a b ha hb h1 h2 => by
    have ia : ∃ i, a = .int i := by simp at ha; rcases ha with rfl | rfl | rfl <;> exact ⟨_, rfl⟩
    have ib : ∃ i, b = .int i := by simp at hb; rcases hb with rfl | rfl | rfl <;> exact ⟨_, rfl⟩
    obtain ⟨i, rfl⟩ := ia
    obtain ⟨j, rfl⟩ := ib
    rw [leI, decide_eq_true_eq] at h1 h2
    have : i = j := by omega
    rw [this]
  by_cases h0 : v < 0
  · rw [sort_eq (ys := [.int v, .int 0, .int 3]) leD_total (List.Perm.swap _ _ _) (by simp [leI]; omega) anti]
    have : clamp v = 0 := by unfold clamp; omega
    rw [this]; rfl
  · by_cases h3 : v ≤ 3
    · rw [sort_eq (ys := [.int 0, .int v, .int 3]) leD_total (List.Perm.refl _) (by simp [leI]; omega) anti]
      have : clamp v = v := by unfold clamp; omega
      rw [this]; rfl
    · rw [sort_eq (ys := [.int 0, .int 3, .int v]) leD_total (List.Perm.cons _ (List.Perm.swap _ _ _)) (by simp [leI]; omega) anti]
      have : clamp v = 3 := by unfold clamp; omega
      rw [this]; rfl
theorem pD_shal {p : Str × Int} {n : Nat} : shal (n + 1) (pD p) = true := by simp [pD, shal, shalL]
theorem sortOk_pD {h : Bk} : sortOk (h.map pD) = true := by
  unfold sortOk
  have h1 : ((h.map pD).all fun x => (h.map pD).all fun y => W.alike x y) = true := by
    rw [List.all_map, List.all_eq_true]
    intro p _
    simp only [Function.comp]
    rw [List.all_map, List.all_eq_true]
    intro q _
    simp [pD, W.alike, W.alikeAll]
  have h2 : shalL 60 (h.map pD) = true := shalL_of fun x hx => by
    obtain ⟨p, _, rfl⟩ := List.mem_map.mp hx
    exact pD_shal
  rw [h1, h2]
  simp [List.all_map, Function.comp_def, pD]
theorem sort_pD {h : Bk} : (h.map pD).mergeSort leD = (h.mergeSort leP).map pD := (List.map_mergeSort (r := leP) (s := leD) (f := pD) fun _ _ _ _ => rfl).symm
theorem sort_bkL {h : Bk} : bltF .sorted [.list (h.map pD)] = .ok (.list ((h.mergeSort leP).map pD)) := by
  show R.gd _ _ = _
  rw [sortOk_pD, sort_pD]; rfl
theorem sort_bkT {h : Bk} : bltF .sorted [.tuple (h.map pD)] = .ok (.list ((h.mergeSort leP).map pD)) := by
  show R.gd _ _ = _
  rw [sortOk_pD, sort_pD]; rfl
theorem first_num {h : Bk} {n : Str} : atOf ((h.filterMap fun p => if p.1 = n then some (.int p.2 : D) else none) ++ [.int 0]) 0 = some (.int (num h n)) := by
  have e : ∀ (x : D) (xs : List D), atOf (x :: xs) 0 = some x := fun x xs => by
    rw [atOf_nat (by omega) (by simp only [List.length_cons]; omega)]; rfl
  unfold num
  induction h with
  | nil => exact e _ _
  | cons p h ih =>
    rw [List.filterMap_cons, alook_cons]
    by_cases hp : p.1 = n
    · simp only [hp, if_true]; exact e _ _
    · simp only [hp, if_false]; exact ih
theorem mul01 {x : D} {c : Prop} [Decidable c] : binF .mul (.list [x]) (.int (if c then 1 else 0)) = .ok (.list (if c then [x] else [])) := by
  by_cases h : c
  · simp only [if_pos h]; rfl
  · simp only [if_neg h]; rfl
theorem lstep_len {b : Bk} {d : Dd} : (lstep b d).length ≤ b.length + 1 := by
  unfold lstep
  rw [List.length_append]
  have := List.length_filter_le (fun p => !decide (p.1 = d.name)) b
  split <;> simp <;> omega
theorem lsteps_len {ds : List Dd} : ∀ {h : Bk}, (ds.foldl lstep h).length ≤ h.length + ds.length := by
  induction ds with
  | nil => intro h; exact Nat.le_refl _
  | cons d ds ih =>
    intro h
    have h1 := ih (h := lstep h d)
    have h2 := lstep_len (b := h) (d := d)
    simp only [List.foldl_cons, List.length_cons]
    omega
section
variable {T : Tab} {wf k : Nat} {nat : CallF}
/-- list or tuple -/
def lt (b : Bool) (xs : List D) : D := if b then .list xs else .tuple xs
theorem lt_t {xs : List D} : lt true xs = .list xs := rfl
theorem it_lt {b : Bool} {xs : List D} : itemsF .plain [lt b xs] = .ok xs := by cases b <;> rfl
theorem at0t {p : Str × Int} : idxF (pD p) (.int 0) = .ok (.str p.1) := rfl
theorem at1t {p : Str × Int} : idxF (pD p) (.int 1) = .ok (.int p.2) := rfl
/-- a comprehension over things that stand for others -/
def lcM {α : Type} (f : α → R (Option D)) : List α → R (List D)
  | [] => .ok []
  | x :: xs => (f x).calm.bind fun o => (lcM f xs).bind fun ys => .ok (match o with | some y => y :: ys | none => ys)
theorem lcN_M {α : Type} {f : D → R (Option D)} {g : α → D} {xs : List α} : lcN f (xs.map g) = lcM (fun c => f (g c)) xs := by
  induction xs with
  | nil => rfl
  | cons x xs ih => rw [List.map_cons]; unfold lcN lcM; rw [ih]; try rfl
theorem lcM_all {α : Type} {h : α → D} {xs : List α} : lcM (fun c => .ok (some (h c))) xs = .ok (xs.map h) := by
  induction xs with
  | nil => rfl
  | cons x xs ih => unfold lcM; rw [ih]; rfl
theorem lcM_ok {α : Type} {h : α → Option D} {xs : List α} : lcM (fun c => .ok (h c)) xs = .ok (xs.filterMap h) := by
  induction xs with
  | nil => rfl
  | cons x xs ih =>
    unfold lcM; rw [ih]
    simp only [R.calm_ok, R.bind_ok, List.filterMap_cons]
    cases h x <;> rfl
theorem lcM_congr {α : Type} {f g : α → R (Option D)} {xs : List α} (h : ∀ x ∈ xs, f x = g x) : lcM f xs = lcM g xs := by
  induction xs with
  | nil => rfl
  | cons x xs ih =>
    unfold lcM
    rw [h x (.head _), ih fun y hy => h y (.tail _ hy)]
theorem ite_ok {α : Type} {c : Prop} [Decidable c] {a b : α} : (if c then R.ok a else R.ok b) = R.ok (if c then a else b) := by split <;> rfl
theorem fm_filter {α : Type} {c : α → Prop} [DecidablePred c] {g : α → D} {xs : List α} : (xs.filterMap fun p => if c p then some (g p) else none) = (xs.filter fun p => decide (c p)).map g := by
  induction xs with
  | nil => rfl
  | cons x xs ih =>
    rw [List.filterMap_cons, List.filter_cons]
    by_cases h : c x <;> simp [h, ih]
theorem fm_filterN {α : Type} {c : α → Prop} [DecidablePred c] {g : α → D} {xs : List α} : (xs.filterMap fun p => if c p then none else some (g p)) = (xs.filter fun p => !decide (c p)).map g := by
  induction xs with
  | nil => rfl
  | cons x xs ih =>
    rw [List.filterMap_cons, List.filter_cons]
    by_cases h : c x <;> simp [h, ih]
theorem ldone_ok [Has T "_law_done" Q.m__law_done] {b : Bk} {ds : List Dd} (hl : b.length + ds.length < 64) (hk : 1 ≤ k) : callN T wf nat k "_law_done" [bkD b, ddD ds] = .ok (bkD (ldoneM b ds)) := by
  obtain ⟨k, rfl⟩ : ∃ k', k = k' + 1 := ⟨k - 1, by omega⟩
  rw [call_has, run_ok rfl]
  obtain ⟨r', e1, l, y2, y3, y4, y5, y6, rfl⟩ := forN_fold (tg := .tup [2, 3, 4]) (body := fun r1 => evSs (callN T wf nat k) wf (fb (Q.m__law_done.body.getD 0 .pass)) r1) Dd.enc (fun h r => ∃ l y2 y3 y4 y5 y6, r = [some (lt l (h.map pD)), some (ddD ds), y2, y3, y4, y5, y6]) lstep ds b
    [some (bkD b), some (ddD ds), none, none, none, none, none] ⟨false, _, _, _, _, _, rfl⟩ (fun pre d post r e hr => by
      obtain ⟨l, y2, y3, y4, y5, y6, rfl⟩ := hr
      have hln : (pre.foldl lstep b).length < 64 := by
        have := lsteps_len (ds := pre) (h := b)
        rw [e, List.length_append] at hl
        omega
      generalize pre.foldl lstep b = h at hln
      have c3 : ((h.filter fun p => decide (p.1 = d.name)).map fun p => (.int p.2 : D)).length + ([.int 0] : List D).length ≤ LIM := by
        have := List.length_filter_le (fun p : Str × Int => decide (p.1 = d.name)) h
        rw [List.length_map]
        unfold LIM; simp; omega
      have c4 : ∀ v, ((h.filter fun p => !decide (p.1 = d.name)).map pD).length + (if 0 < v then [PyData.tuple [.str d.name, .int v]] else []).length ≤ LIM := fun v => by
        have := List.length_filter_le (fun p : Str × Int => !decide (p.1 = d.name)) h
        rw [List.length_map]
        unfold LIM
        split <;> simp <;> omega
      have c5 : (lstep h d).map pD = (h.filter fun p => !decide (p.1 = d.name)).map pD ++ (if 0 < d.val (num h d.name) then [PyData.tuple [.str d.name, .int (d.val (num h d.name))]] else []) := by
        unfold lstep
        rw [List.map_append]
        congr 1
        split <;> rfl
      have f1 := first_num (h := h) (n := d.name)
      rw [fm_filter] at f1
      obtain ⟨xs, s1, s2⟩ := sort3 (v := num h d.name + d.n)
      refine ⟨_, _, rfl, .inl ?_, true, some (.str (if d.add then "add" else "set")), some (.str d.name), some (.int (d.val (num h d.name))), some (.int (num h d.name)), y6, rfl⟩
      rw [c5]
      cases hd : d.add with
      | true =>
        simp [Q.m__law_done, fb, it_lt, lcN_M, lcM_all, lcM_ok, at0t, at1t, ite_ok, fm_filter, fm_filterN, b_addL c3, f1, s1, s2, mul01, b_addL (c4 _), hd, Dd.val, lt_t]
      | false => 
        simp [Q.m__law_done, fb, it_lt, lcN_M, lcM_all, lcM_ok, at0t, at1t, ite_ok, fm_filter, fm_filterN, b_addL c3, f1, s1, s2, mul01, b_addL (c4 _), hd, Dd.val, lt_t, ofString_beq])
  have hb : Q.m__law_done.body = [.for_ (.tup [2, 3, 4]) .plain [.var 1] (fb (Q.m__law_done.body.getD 0 .pass)), .ret (.blt .tuple [.blt .sorted [.var 0]])] := rfl
  have hs : bltF .sorted [lt l ((ds.foldl lstep b).map pD)] = .ok (.list ((ldoneM b ds).map pD)) := by
    cases l
    · exact sort_bkT
    · exact sort_bkL
  have hi : itemsF .plain [ddD ds] = .ok (ds.map Dd.enc) := rfl
  have hst : startE Q.m__law_done [bkD b, ddD ds] = [some (bkD b), some (ddD ds), none, none, none, none, none] := rfl
  rw [hb, hst]
  generalize fb (Q.m__law_done.body.getD 0 .pass) = B at e1 ⊢
  simp [hi, e1, hs]
  rfl
/-! ### sameness -/
theorem all_map {α : Type} {p : α → Bool} {xs : List α} : bltF .all [.list (xs.map fun x => .bool (p x))] = .ok (.bool (xs.all p)) := by
  have := allB (bs := xs.map p)
  rw [List.map_map] at this
  rw [show (xs.map fun x => PyData.bool (p x)) = xs.map (PyData.bool ∘ p) from rfl, this, List.all_map]; rfl
theorem any_map {α : Type} {p : α → Bool} {xs : List α} : bltF .any [.list (xs.map fun x => .bool (p x))] = .ok (.bool (xs.any p)) := by
  have := anyB (bs := xs.map p)
  rw [List.map_map] at this
  rw [show (xs.map fun x => PyData.bool (p x)) = xs.map (PyData.bool ∘ p) from rfl, this, List.any_map]; rfl
theorem it_zipT {xs ys : List D} : itemsF .zip [.tuple xs, .tuple ys] = .ok ((xs.zip ys).map fun p => .tuple [p.1, p.2]) := rfl
theorem it_zipL {xs ys : List D} : itemsF .zip [.list xs, .list ys] = .ok ((xs.zip ys).map fun p => .tuple [p.1, p.2]) := rfl
theorem zip_self {α : Type} {xs : List α} {p : α × α} (h : p ∈ xs.zip xs) : p.1 = p.2 ∧ p.1 ∈ xs := by
  induction xs with
  | nil => cases h
  | cons x xs ih =>
    rw [List.zip_cons_cons] at h
    rcases List.mem_cons.mp h with rfl | h
    · exact ⟨rfl, .head _⟩
    · exact ⟨(ih h).1, .tail _ (ih h).2⟩
theorem asg2 {i j : Nat} {a b : D} {r : En} : asg (.tup [i, j]) (.tuple [a, b]) r = .ok (put (put r i a) j b) := rfl
theorem asg3 {i j l : Nat} {a b c : D} {r : En} : asg (.tup [i, j, l]) (.tuple [a, b, c]) r = .ok (put (put (put r i a) j b) l c) := rfl
theorem same_ok [Has T "_law_same" Q.m__law_same] : ∀ (n : Nat) (d : D), shal n d = true → nolist d = true → ∀ k, n < k → callN T wf nat k "_law_same" [d, d] = .ok (.bool true) := by
  intro n
  induction n with
  | zero =>
    intro d h1 h2 k hk
    obtain ⟨k, rfl⟩ : ∃ k', k = k' + 1 := ⟨k - 1, by omega⟩
    rw [call_has, run_ok rfl]
    cases d with
    | tuple xs => simp [shal] at h1
    | list xs => simp [shal] at h1
    | dict xs => simp [shal] at h1
    | _ => simp [Q.m__law_same, startE, isNon]
  | succ n ih =>
    intro d h1 h2 k hk
    obtain ⟨k, rfl⟩ : ∃ k', k = k' + 1 := ⟨k - 1, by omega⟩
    rw [call_has, run_ok rfl]
    cases d with
    | list xs => simp [nolist] at h2
    | dict xs => simp [shal] at h1
    | tuple xs =>
      have e : lcM (fun c : D × D => (callN T wf nat k "_law_same" [c.1, c.2]).bind fun y => .ok (some y)) (xs.zip xs) = .ok ((xs.zip xs).map fun _ => .bool true) := by
        rw [lcM_congr (g := fun _ => .ok (some (.bool true))) fun p hp => ?_, lcM_all]
        obtain ⟨e1, e2⟩ := zip_self hp
        rw [e1, ih p.2 (shalL_mem (shal_tup h1) _ (e1 ▸ e2)) ?_ k (by omega)]
        · rfl
        · have : nolistL xs = true := by simpa [nolist] using h2
          have go : ∀ {xs : List D}, nolistL xs = true → ∀ x ∈ xs, nolist x = true := fun {xs} => by
            induction xs with
            | nil => intro _ x hx; cases hx
            | cons y ys ih =>
              intro h x hx
              simp only [nolistL, Bool.and_eq_true] at h
              rcases List.mem_cons.mp hx with rfl | hx
              · exact h.1
              · exact ih h.2 x hx
          exact go this _ (e1 ▸ e2)
      have ea := all_map (p := fun _ : D × D => true) (xs := xs.zip xs)
      simp only [Q.m__law_same, startE]
      simp [it_zipT, lcN_M, asg2, e, ea]
    | _ => simp [Q.m__law_same, startE, isNon]
/-! ### tests -/
inductive Tst where
  | has (n : Str) (k : Int) | been (p : Str) | not (t : Tst) | and (a b : Tst) | or (a b : Tst)
  deriving DecidableEq
def Tst.enc : Tst → D
  | .has n k => .tuple [.str "has", .str n, .int k]
  | .been p => .tuple [.str "been", .str p]
  | .not t => .tuple [.str "not", t.enc]
  | .and a b => .tuple [.str "and", a.enc, b.enc]
  | .or a b => .tuple [.str "or", a.enc, b.enc]
def Tst.dep : Tst → Nat
  | .has _ _ => 1
  | .been _ => 1
  | .not t => t.dep + 1
  | .and a b => max a.dep b.dep + 1
  | .or a b => max a.dep b.dep + 1
def hv (b : Bk) (ss : List Str) : Tst → Bool
  | .has n k => decide (k ≤ num b n)
  | .been p => ss.contains p
  | .not t => !hv b ss t
  | .and s t => hv b ss s && hv b ss t
  | .or s t => hv b ss s || hv b ss t
theorem in_bn {ss : List Str} {s : Str} : cmpF .isin (.str s) (bnD ss) = .ok (ss.contains s) := by
  rw [c_in]
  have h1 : shalL 60 (ss.map (.str : Str → D)) = true := shalL_of fun x hx => by
    obtain ⟨y, _, rfl⟩ := List.mem_map.mp hx
    simp [shal]
  show R.gd (shal 60 (.str s) && shalL 60 (ss.map .str)) _ = _
  rw [h1]
  have h2 : ((ss.map (.str : Str → D)).any fun z => PyData.eqv z (.str s)) = ss.contains s := by
    rw [List.any_map]
    clear h1
    induction ss with
    | nil => rfl
    | cons x ss ih =>
      rw [List.any_cons, List.contains_cons, ih]
      congr 1
      show PyData.eqv (.str x) (.str s) = _
      rw [eqvSS, Bool.eq_iff_iff, decide_eq_true_eq, beq_iff_eq]
      exact eq_comm
  rw [h2]
  simp [shal]
theorem holds_ok [Has T "holds" Q.m_holds] {b : Bk} {ss : List Str} (nd : (b.map Prod.fst).Nodup) : ∀ (t : Tst) (k : Nat), t.dep ≤ k → callN T wf nat k "holds" [t.enc, bkD b, bnD ss] = .ok (.bool (hv b ss t)) := by
  intro t
  induction t with
  | has n i =>
    intro k hk
    obtain ⟨k, rfl⟩ : ∃ k', k = k' + 1 := ⟨k - 1, by simp [Tst.dep] at hk; omega⟩
    rw [call_has, run_ok rfl]
    simp [Q.m_holds, startE, Tst.enc, hv, at1, at2, dict_bk nd, get_num]
  | been p =>
    intro k hk
    obtain ⟨k, rfl⟩ : ∃ k', k = k' + 1 := ⟨k - 1, by simp [Tst.dep] at hk; omega⟩
    rw [call_has, run_ok rfl]
    simp [Q.m_holds, startE, Tst.enc, hv, at1, at2, in_bn, ofString_beq]
  | not t ih =>
    intro k hk
    simp only [Tst.dep] at hk
    obtain ⟨k, rfl⟩ : ∃ k', k = k' + 1 := ⟨k - 1, by omega⟩
    rw [call_has, run_ok rfl]
    simp [Q.m_holds, startE, Tst.enc, hv, at1, at2, ofString_beq, ih k (by omega)]
  | and s t ih1 ih2 =>
    intro k hk
    simp only [Tst.dep] at hk
    obtain ⟨k, rfl⟩ : ∃ k', k = k' + 1 := ⟨k - 1, by omega⟩
    rw [call_has, run_ok rfl]
    have h1 := ih1 k (by omega)
    have h2 := ih2 k (by omega)
    simp only [hv]
    cases hs : hv b ss s <;> (rw [hs] at h1; simp [Q.m_holds, startE, Tst.enc, at1, at2, ofString_beq, h1, h2])
  | or s t ih1 ih2 =>
    intro k hk
    simp only [Tst.dep] at hk
    obtain ⟨k, rfl⟩ : ∃ k', k = k' + 1 := ⟨k - 1, by omega⟩
    rw [call_has, run_ok rfl]
    have h1 := ih1 k (by omega)
    have h2 := ih2 k (by omega)
    simp only [hv]
    cases hs : hv b ss s <;> (rw [hs] at h1; simp [Q.m_holds, startE, Tst.enc, at1, at2, ofString_beq, h1, h2])
end
end BT
set_option Elab.async false
set_option linter.all false
set_option maxRecDepth 100000
set_option maxHeartbeats 4000000
/-! BTG3: what shared functions compute: drawn tests, deeds, books. -/
namespace BT
open PySem
def Tst.gen : Tst → Prop
  | .has n k => (n = "x" ∨ n = "y") ∧ 1 ≤ k ∧ k ≤ 3
  | .been p => p = "a" ∨ p = "b" ∨ p = "c" ∨ p = "d"
  | .not t => t.gen
  | .and a b => a.gen ∧ b.gen
  | .or a b => a.gen ∧ b.gen
/-- has asks for one at least -/
def Tst.pos : Tst → Prop
  | .has n k => 1 ≤ k
  | .been p => True
  | .not t => t.pos
  | .and a b => a.pos ∧ b.pos
  | .or a b => a.pos ∧ b.pos
theorem Tst.gen_pos : ∀ {t : Tst}, t.gen → t.pos
  | .has _ _, h => h.2.1
  | .been _, _ => trivial
  | .not t, h => gen_pos (t := t) h
  | .and a b, h => ⟨gen_pos h.1, gen_pos h.2⟩
  | .or a b, h => ⟨gen_pos h.1, gen_pos h.2⟩
theorem Tst.enc_shal : ∀ (t : Tst), BT.shal t.dep t.enc = true
  | .has _ _ => by simp [Tst.enc, Tst.dep, BT.shal, shalL]
  | .been _ => by simp [Tst.enc, Tst.dep, BT.shal, shalL]
  | .not t => by simp [Tst.enc, Tst.dep, BT.shal, shalL, enc_shal t]
  | .and a b => by
    simp [Tst.enc, Tst.dep, BT.shal, shalL]
    exact ⟨shal_up _ (Nat.le_max_left _ _) (enc_shal a), shal_up _ (Nat.le_max_right _ _) (enc_shal b)⟩
  | .or a b => by
    simp [Tst.enc, Tst.dep, BT.shal, shalL]
    exact ⟨shal_up _ (Nat.le_max_left _ _) (enc_shal a), shal_up _ (Nat.le_max_right _ _) (enc_shal b)⟩
theorem Tst.enc_nb : ∀ (t : Tst), nb t.enc = true
  | .has _ _ => by simp [Tst.enc, nb, nbL]
  | .been _ => by simp [Tst.enc, nb, nbL]
  | .not t => by simp [Tst.enc, nb, nbL, enc_nb t]
  | .and a b => by simp [Tst.enc, nb, nbL, enc_nb a, enc_nb b]
  | .or a b => by simp [Tst.enc, nb, nbL, enc_nb a, enc_nb b]
theorem Tst.enc_nolist : ∀ (t : Tst), nolist t.enc = true
  | .has _ _ => by simp [Tst.enc, nolist, nolistL]
  | .been _ => by simp [Tst.enc, nolist, nolistL]
  | .not t => by simp [Tst.enc, nolist, nolistL, enc_nolist t]
  | .and a b => by simp [Tst.enc, nolist, nolistL, enc_nolist a, enc_nolist b]
  | .or a b => by simp [Tst.enc, nolist, nolistL, enc_nolist a, enc_nolist b]
def Dd.gen (d : Dd) : Prop := (d.name = "x" ∨ d.name = "y") ∧ (if d.add then -2 ≤ d.n ∧ d.n ≤ 2 else 0 ≤ d.n ∧ d.n ≤ 3)
theorem Dd.gen_ok {d : Dd} (h : d.gen) : d.ok := fun e => by
  have := h.2
  rw [e] at this
  simpa using this
theorem pick2' {α : Type} {a b : α} {i : Int} (h0 : 0 ≤ i) (h1 : i < 2) : atOf [a, b] i = some (if i = 0 then a else b) := by
  rw [atOf_nat h0 (by simpa using h1)]
  have : i = 0 ∨ i = 1 := by omega
  rcases this with rfl | rfl <;> rfl
section
variable {T : Tab} {wf k : Nat} {nat : CallF}
theorem mixT [h : Has T "_law_mix" Q.m__law_mix] {c p n : Int} (hp : 0 < p) (hp2 : p < 1000000) (hn : 0 < n) (hk : 1 ≤ k) : callN T wf nat k "_law_mix" [.int c, .int p, .int n] = .ok (.int (mix c p n)) := by
  obtain ⟨k, rfl⟩ : ∃ k', k = k' + 1 := ⟨k - 1, by omega⟩
  exact mix_ok (show T.lookup _ = some mMix from h.eq) c hp hp2 hn
theorem mul7 {i : Int} : binF .mul (.int 7) (.int i) = .ok (.int (7 * i)) := b_mulI (by simp)
theorem mul31 {i : Int} : binF .mul (.int 31) (.int i) = .ok (.int (31 * i)) := b_mulI (by simp)
theorem mul3 {i : Int} : binF .mul (.int 3) (.int i) = .ok (.int (3 * i)) := b_mulI (by simp)
theorem mulc {i : Int} {c : Int} (h : -(2 ^ 64) < c ∧ c < 2 ^ 64) : binF .mul (.int c) (.int i) = .ok (.int (c * i)) := b_mulI (by rw [decide_eq_true h]; rfl)
theorem mulc' {i : Int} {c : Int} (h : -(2 ^ 64) < c ∧ c < 2 ^ 64) : binF .mul (.int i) (.int c) = .ok (.int (i * c)) := b_mulI (by rw [decide_eq_true h, Bool.or_true])
/-- a drawn deed -/
def gDeed (s : Int) : Dd := ⟨decide (mix s 9923 3 ≠ 0), if mix s 9929 2 = 0 then "x" else "y", if mix s 9923 3 = 0 then mix s 9907 4 else mix s 9901 5 - 2⟩
theorem gDeed_gen (s : Int) : (gDeed s).gen := by
  have a := mix_pos (c := s) (p := 9907) (n := 4) (by omega)
  have b := mix_lt (c := s) (p := 9907) (n := 4) (by omega)
  have c := mix_pos (c := s) (p := 9901) (n := 5) (by omega)
  have d := mix_lt (c := s) (p := 9901) (n := 5) (by omega)
  unfold Dd.gen gDeed
  refine ⟨?_, ?_⟩
  · simp only; split <;> simp
  · by_cases h : mix s 9923 3 = 0
    · simp [h]; omega
    · simp [h]; omega
def gDeeds (c : Int) : List Dd := ((List.range (mix c 9931 3).toNat).map fun (j : Nat) => gDeed (c + 7 * j))
theorem gDeeds_len (c : Int) : (gDeeds c).length ≤ 2 := by
  unfold gDeeds
  have b := mix_lt (c := c) (p := 9931) (n := 3) (by omega)
  simp; omega
theorem gDeeds_gen (c : Int) : ∀ d ∈ gDeeds c, d.gen := fun d hd => by
  obtain ⟨j, _, rfl⟩ := List.mem_map.mp hd
  exact gDeed_gen _
theorem foldl_snoc {α β : Type} {f : α → β} {xs : List α} : ∀ {acc : List β}, xs.foldl (fun acc x => acc ++ [f x]) acc = acc ++ xs.map f := by
  induction xs with
  | nil => intro acc; simp
  | cons x xs ih => intro acc; rw [List.foldl_cons, ih]; simp
theorem deeds_ok [Has T "_law_mix" Q.m__law_mix] [Has T "_law_deeds" Q.m__law_deeds] {c : Int} (hk : 2 ≤ k) : callN T wf nat k "_law_deeds" [.int c] = .ok (ddD (gDeeds c)) := by
  obtain ⟨k, rfl⟩ : ∃ k', k = k' + 1 := ⟨k - 1, by omega⟩
  have em : ∀ {c p n : Int}, 0 < p → p < 1000000 → 0 < n → callN T wf nat k "_law_mix" [.int c, .int p, .int n] = .ok (.int (mix c p n)) := fun h1 h2 h3 => mixT h1 h2 h3 (by omega)
  rw [call_has, run_ok rfl]
  have m1 := mix_lt (c := c) (p := 9931) (n := 3) (by omega)
  have m2 := mix_pos (c := c) (p := 9931) (n := 3) (by omega)
  obtain ⟨r', e1, y2, y3, y4, rfl⟩ := forN_fold (tg := .name 2) (body := fun r1 => evSs (callN T wf nat k) wf (fb (Q.m__law_deeds.body.getD 1 .pass)) r1) (fun (j : Nat) => .int (j : Int)) (fun (acc : List Dd) r => ∃ y2 y3 y4, r = [some (.int c), some (.list (acc.map Dd.enc)), y2, y3, y4]) (fun acc j => acc ++ [gDeed (c + 7 * j)]) (List.range (mix c 9931 3).toNat) []
    [some (.int c), some (.list []), none, none, none] ⟨_, _, _, rfl⟩ (fun pre j post r e hr => by
      obtain ⟨y2, y3, y4, rfl⟩ := hr
      have hln : ((pre.foldl (fun acc (j : Nat) => acc ++ [gDeed (c + 7 * j)]) ([] : List Dd)).map Dd.enc).length < LIM := by
        rw [foldl_snoc]
        have : (List.range (mix c 9931 3).toNat).length = (pre ++ j :: post).length := by rw [e]
        simp at this ⊢
        unfold LIM; omega
      generalize pre.foldl (fun acc (j : Nat) => acc ++ [gDeed (c + 7 * j)]) ([] : List Dd) = acc at hln
      refine ⟨_, _, rfl, .inl ?_, some (.int j), some (.int (c + 7 * j)), some (.str (gDeed (c + 7 * j)).name), rfl⟩
      have p2 := pick2' (a := (.str "x" : D)) (b := .str "y") (mix_pos (c := c + 7 * j) (p := 9929) (n := 2) (by omega)) (mix_lt (by omega))
      rw [List.map_append]
      have nm : (if mix (c + 7 * (j : Int)) 9929 2 = 0 then PyData.str "x" else PyData.str "y") = .str (gDeed (c + 7 * j)).name := by
        simp only [gDeed]; split <;> rfl
      rw [nm] at p2
      by_cases h : mix (c + 7 * (j : Int)) 9923 3 = 0
      · have en : (gDeed (c + 7 * j)).enc = .tuple [.str "set", .str (gDeed (c + 7 * j)).name, .int (mix (c + 7 * j) 9907 4)] := by simp [Dd.enc, gDeed, h]
        have hln : acc.length < LIM := by simpa using hln
        simp [Q.m__law_deeds, fb, mul7, em, p2, h, eS_app, hln, en]
      · have en : (gDeed (c + 7 * j)).enc = .tuple [.str "add", .str (gDeed (c + 7 * j)).name, .int (mix (c + 7 * j) 9901 5 - 2)] := by simp [Dd.enc, gDeed, h]
        have h' : (mix (c + 7 * (j : Int)) 9923 3 == 0) = false := by rw [beq_eq_false_iff_ne]; exact h
        have hln : acc.length < LIM := by simpa using hln
        simp [Q.m__law_deeds, fb, mul7, em, p2, h', eS_app, hln, en])
  rw [foldl_snoc] at e1
  have hb : Q.m__law_deeds.body = [.setL 1 (.lst []), .for_ (.name 2) .range1 [.call "_law_mix" [.var 0, .int 9931, .int 3]] (fb (Q.m__law_deeds.body.getD 1 .pass)), .ret (.blt .tuple [.lin 1])] := rfl
  have hst : startE Q.m__law_deeds [.int c] = [some (.int c), none, none, none, none] := rfl
  rw [hb, hst]
  generalize fb (Q.m__law_deeds.body.getD 1 .pass) = B at e1 ⊢
  have hr := it_range1 (n := mix c 9931 3) (by omega)
  simp [em, hr, e1]
  unfold ddD gDeeds
  rw [List.map_map]
/-- a drawn book -/
def gBook (c : Int) : Bk :=
  if 0 < mix c 9887 4 then (if 0 < mix (c + 3 + 1) 9887 4 then [("x", mix c 9887 4), ("y", mix (c + 3 + 1) 9887 4)] else [("x", mix c 9887 4)])
  else (if 0 < mix (c + 1) 9887 4 then [("y", mix (c + 1) 9887 4)] else [])
theorem xy : ltS "x" "y" := ⟨by decide +kernel, by decide +kernel⟩
theorem gBook_good (c : Int) : Good (gBook c) := by
  have a := mix_lt (c := c) (p := 9887) (n := 4) (by omega)
  have b := mix_lt (c := c + 3 + 1) (p := 9887) (n := 4) (by omega)
  have d := mix_lt (c := c + 1) (p := 9887) (n := 4) (by omega)
  unfold gBook
  split
  · split
    · exact ⟨by simpa using xy, by simp; omega⟩
    · exact ⟨by simp, by simp; omega⟩
  · split
    · exact ⟨by simp, by simp; omega⟩
    · exact ⟨by simp, by simp⟩
theorem gBook_len (c : Int) : (gBook c).length ≤ 2 := by
  unfold gBook
  split <;> split <;> simp
theorem book_ok [Has T "_law_mix" Q.m__law_mix] [Has T "_law_book" Q.m__law_book] {c : Int} (hk : 2 ≤ k) : callN T wf nat k "_law_book" [.int c] = .ok (bkD (gBook c)) := by
  obtain ⟨k, rfl⟩ : ∃ k', k = k' + 1 := ⟨k - 1, by omega⟩
  have em : ∀ {c p n : Int}, 0 < p → p < 1000000 → 0 < n → callN T wf nat k "_law_mix" [.int c, .int p, .int n] = .ok (.int (mix c p n)) := fun h1 h2 h3 => mixT h1 h2 h3 (by omega)
  rw [call_has, run_ok rfl]
  have m0 : ∀ n : Int, binF .mul (.int n) (.int 3) = .ok (.int (n * 3)) := fun n => b_mulI (by simp)
  have lim0 : (0 : Nat) < LIM := by unfold LIM; omega
  have lim1 : (1 : Nat) < LIM := by unfold LIM; omega
  by_cases h0 : 0 < mix c 9887 4
  · by_cases h3 : 0 < mix (c + 3 + 1) 9887 4
    · simp [Q.m__law_book, startE, forN, m0, em, h0, h3, eS_app, lim0, lim1, bkD, gBook, ofString_beq, pD]
    · simp [Q.m__law_book, startE, forN, m0, em, h0, h3, eS_app, lim0, lim1, bkD, gBook, ofString_beq, pD]
  · by_cases h1 : 0 < mix (c + 1) 9887 4
    · simp [Q.m__law_book, startE, forN, m0, em, h0, h1, eS_app, lim0, lim1, bkD, gBook, ofString_beq, pD]
    · simp [Q.m__law_book, startE, forN, m0, em, h0, h1, eS_app, lim0, lim1, bkD, gBook, ofString_beq, pD]
/-! ### drawn tests -/
theorem test_ok [Has T "_law_mix" Q.m__law_mix] [Has T "_law_test" Q.m__law_test] : ∀ (n : Nat) (c : Int), ∃ t : Tst, t.gen ∧ t.dep ≤ n + 1 ∧ ∀ k, n + 2 ≤ k → callN T wf nat k "_law_test" [.int c, .int ((n : Int) + 1)] = .ok t.enc := by
  intro n
  induction n with
  | zero =>
    intro c
    have p3 : 0 ≤ mix c 9949 3 ∧ mix c 9949 3 < 3 := ⟨mix_pos (by omega), mix_lt (by omega)⟩
    obtain ⟨s2, q2, r2⟩ := pick2 (a := (.str "x" : D)) (b := .str "y") (mix_pos (c := c) (p := 9967) (n := 2) (by omega)) (mix_lt (by omega))
    obtain ⟨s4, q4, r4⟩ := pick4 (a := (.str "a" : D)) (b := .str "b") (c := .str "c") (d := .str "d") (mix_pos (c := c) (p := 9941) (n := 4) (by omega)) (mix_lt (by omega))
    by_cases hw : mix c 9973 7 % 2 = 0
    · have hs : ∃ s : Str, s2 = .str s ∧ (s = "x" ∨ s = "y") := by rcases r2 with rfl | rfl; exact ⟨_, rfl, .inl rfl⟩; exact ⟨_, rfl, .inr rfl⟩
      obtain ⟨s, rfl, hs⟩ := hs
      refine ⟨.has s (1 + mix c 9949 3), ⟨hs, by omega, by omega⟩, by simp [Tst.dep], fun k hk => ?_⟩
      obtain ⟨k, rfl⟩ : ∃ k', k = k' + 1 := ⟨k - 1, by omega⟩
      have em : ∀ {c p n : Int}, 0 < p → p < 1000000 → 0 < n → callN T wf nat k "_law_mix" [.int c, .int p, .int n] = .ok (.int (mix c p n)) := fun h1 h2 h3 => mixT h1 h2 h3 (by omega)
      rw [call_has, run_ok rfl]
      by_cases h3 : mix c 9973 7 < 3 <;> simp [Q.m__law_test, startE, em, b_modI, hw, q2, h3, Tst.enc]
    · have hw' : (mix c 9973 7 % 2 == 0) = false := by rw [beq_eq_false_iff_ne]; exact hw
      have hs : ∃ s : Str, s4 = .str s ∧ (s = "a" ∨ s = "b" ∨ s = "c" ∨ s = "d") := by rcases r4 with rfl | rfl | rfl | rfl <;> exact ⟨_, rfl, by simp⟩
      obtain ⟨s, rfl, hs⟩ := hs
      refine ⟨.been s, hs, by simp [Tst.dep], fun k hk => ?_⟩
      obtain ⟨k, rfl⟩ : ∃ k', k = k' + 1 := ⟨k - 1, by omega⟩
      have em : ∀ {c p n : Int}, 0 < p → p < 1000000 → 0 < n → callN T wf nat k "_law_mix" [.int c, .int p, .int n] = .ok (.int (mix c p n)) := fun h1 h2 h3 => mixT h1 h2 h3 (by omega)
      rw [call_has, run_ok rfl]
      by_cases h3 : mix c 9973 7 < 3 <;> simp [Q.m__law_test, startE, em, b_modI, hw', q4, h3, Tst.enc]
  | succ n ih =>
    intro c
    have p3 : 0 ≤ mix c 9949 3 ∧ mix c 9949 3 < 3 := ⟨mix_pos (by omega), mix_lt (by omega)⟩
    obtain ⟨s2, q2, r2⟩ := pick2 (a := (.str "x" : D)) (b := .str "y") (mix_pos (c := c) (p := 9967) (n := 2) (by omega)) (mix_lt (by omega))
    obtain ⟨s4, q4, r4⟩ := pick4 (a := (.str "a" : D)) (b := .str "b") (c := .str "c") (d := .str "d") (mix_pos (c := c) (p := 9941) (n := 4) (by omega)) (mix_lt (by omega))
    have hd : ¬ ((n : Int) + 1 + 1 < 2) := by omega
    have ed : ((n : Int) + 1 + 1 - 1) = (n : Int) + 1 := by omega
    obtain ⟨t1, g1, d1, f1⟩ := ih (c + 1)
    obtain ⟨t2, g2, d2, f2⟩ := ih (c + 2)
    obtain ⟨t5, g5, d5, f5⟩ := ih (c + 5)
    have pw := pick2' (a := (.str "and" : D)) (b := .str "or") (i := mix c 9973 7 % 2) (by omega) (by omega)
    by_cases h3 : mix c 9973 7 < 3
    · by_cases hw : mix c 9973 7 % 2 = 0
      · have hs : ∃ s : Str, s2 = .str s ∧ (s = "x" ∨ s = "y") := by rcases r2 with rfl | rfl; exact ⟨_, rfl, .inl rfl⟩; exact ⟨_, rfl, .inr rfl⟩
        obtain ⟨s, rfl, hs⟩ := hs
        refine ⟨.has s (1 + mix c 9949 3), ⟨hs, by omega, by omega⟩, by simp [Tst.dep], fun k hk => ?_⟩
        obtain ⟨k, rfl⟩ : ∃ k', k = k' + 1 := ⟨k - 1, by omega⟩
        have em : ∀ {c p n : Int}, 0 < p → p < 1000000 → 0 < n → callN T wf nat k "_law_mix" [.int c, .int p, .int n] = .ok (.int (mix c p n)) := fun h1 h2 h3 => mixT h1 h2 h3 (by omega)
        rw [call_has, run_ok rfl]
        simp [Q.m__law_test, startE, em, b_modI, hw, q2, h3, Tst.enc]
      · have hw' : (mix c 9973 7 % 2 == 0) = false := by rw [beq_eq_false_iff_ne]; exact hw
        have hs : ∃ s : Str, s4 = .str s ∧ (s = "a" ∨ s = "b" ∨ s = "c" ∨ s = "d") := by rcases r4 with rfl | rfl | rfl | rfl <;> exact ⟨_, rfl, by simp⟩
        obtain ⟨s, rfl, hs⟩ := hs
        refine ⟨.been s, hs, by simp [Tst.dep], fun k hk => ?_⟩
        obtain ⟨k, rfl⟩ : ∃ k', k = k' + 1 := ⟨k - 1, by omega⟩
        have em : ∀ {c p n : Int}, 0 < p → p < 1000000 → 0 < n → callN T wf nat k "_law_mix" [.int c, .int p, .int n] = .ok (.int (mix c p n)) := fun h1 h2 h3 => mixT h1 h2 h3 (by omega)
        rw [call_has, run_ok rfl]
        simp [Q.m__law_test, startE, em, b_modI, hw', q4, h3, Tst.enc]
    · by_cases h4 : mix c 9973 7 = 3
      · refine ⟨.not t1, g1, by simp [Tst.dep]; omega, fun k hk => ?_⟩
        obtain ⟨k, rfl⟩ : ∃ k', k = k' + 1 := ⟨k - 1, by omega⟩
        have em : ∀ {c p n : Int}, 0 < p → p < 1000000 → 0 < n → callN T wf nat k "_law_mix" [.int c, .int p, .int n] = .ok (.int (mix c p n)) := fun h1 h2 h3 => mixT h1 h2 h3 (by omega)
        rw [call_has, run_ok rfl]
        simp [Q.m__law_test, startE, em, h3, hd, h4, ed, f1 k (by omega), Tst.enc]
      · have h4' : (mix c 9973 7 == 3) = false := by rw [beq_eq_false_iff_ne]; exact h4
        by_cases hw : mix c 9973 7 % 2 = 0
        · rw [if_pos hw] at pw
          refine ⟨.and t2 t5, ⟨g2, g5⟩, by simp [Tst.dep]; omega, fun k hk => ?_⟩
          obtain ⟨k, rfl⟩ : ∃ k', k = k' + 1 := ⟨k - 1, by omega⟩
          have em : ∀ {c p n : Int}, 0 < p → p < 1000000 → 0 < n → callN T wf nat k "_law_mix" [.int c, .int p, .int n] = .ok (.int (mix c p n)) := fun h1 h2 h3 => mixT h1 h2 h3 (by omega)
          rw [call_has, run_ok rfl]
          simp [Q.m__law_test, startE, em, h3, hd, h4', ed, f2 k (by omega), f5 k (by omega), b_modI, pw, Tst.enc]
        · rw [if_neg hw] at pw
          refine ⟨.or t2 t5, ⟨g2, g5⟩, by simp [Tst.dep]; omega, fun k hk => ?_⟩
          obtain ⟨k, rfl⟩ : ∃ k', k = k' + 1 := ⟨k - 1, by omega⟩
          have em : ∀ {c p n : Int}, 0 < p → p < 1000000 → 0 < n → callN T wf nat k "_law_mix" [.int c, .int p, .int n] = .ok (.int (mix c p n)) := fun h1 h2 h3 => mixT h1 h2 h3 (by omega)
          rw [call_has, run_ok rfl]
          simp [Q.m__law_test, startE, em, h3, hd, h4', ed, f2 k (by omega), f5 k (by omega), b_modI, pw, Tst.enc]
/-! ### by hand: whether a test holds -/
theorem any_num {b : Bk} (nd : (b.map Prod.fst).Nodup) {s : Str} {i : Int} (hi : 1 ≤ i) : (b.any fun p => decide (p.1 = s) && decide (i ≤ p.2)) = decide (i ≤ num b s) := by
  induction b with
  | nil =>
    show false = decide (i ≤ 0)
    rw [decide_eq_false (by omega)]
  | cons p b ih =>
    rw [List.map_cons, List.nodup_cons] at nd
    rw [List.any_cons, ih nd.2]
    unfold num
    rw [alook_cons]
    by_cases h : p.1 = s
    · have h2 : alook b s = none := alook_none (h ▸ nd.1)
      simp [h, h2]; omega
    · simp [h]
theorem cntB {x y : Bool} : bltF .count [.list [.bool x, .bool y], .bool true] = .ok (.int ((if x then 1 else 0) + (if y then 1 else 0))) := by
  cases x <;> cases y <;> rfl
theorem ne_nilL {ys : List D} (h : shalL 59 ys = true) : cmpF .ne (.list ys) (.list []) = .ok (!ys.isEmpty) := by
  rw [c_ne (by simpa [shal] using h) (by simp [shal, shalL])]
  cases ys <;> simp [PyData.eqv, PyData.eqvAll]
theorem lholds_ok [Has T "_law_holds" Q.m__law_holds] {b : Bk} {ss : List Str} (nd : (b.map Prod.fst).Nodup) : ∀ (t : Tst) (k : Nat), t.pos → t.dep ≤ k → callN T wf nat k "_law_holds" [t.enc, bkD b, bnD ss] = .ok (.bool (hv b ss t)) := by
  intro t
  induction t with
  | has n i =>
    intro k hp hk
    obtain ⟨k, rfl⟩ : ∃ k', k = k' + 1 := ⟨k - 1, by simp [Tst.dep] at hk; omega⟩
    rw [call_has, run_ok rfl]
    have e : itemsF .plain [bkD b] = .ok (b.map pD) := rfl
    have e2 : ∀ p : Str × Int, ∀ r, asg (.tup [3, 4]) (pD p) r = .ok (put (put r 3 (.str p.1)) 4 (.int p.2)) := fun p r => rfl
    have hsh : ∀ l : Bk, shalL 59 (l.map fun _ => (.int 1 : D)) = true := fun l => shalL_of fun y hy => by
      obtain ⟨p, _, rfl⟩ := List.mem_map.mp hy
      simp [shal]
    have hem : (!((b.filter fun p => decide (p.1 = n) && decide (i ≤ p.2)).map fun _ => (.int 1 : D)).isEmpty) = decide (i ≤ num b n) := by
      rw [← any_num nd hp, List.isEmpty_map, Bool.eq_iff_iff]
      simp [List.filter_eq_nil_iff]
    have hc : ∀ p : Str × Int, (if (p.1 == n) = true then (if i ≤ p.2 then R.ok (some (PyData.int 1)) else R.ok none) else R.ok none) = R.ok (if (decide (p.1 = n) && decide (i ≤ p.2)) = true then some (.int 1) else none) := fun p => by
      by_cases h1 : p.1 = n <;> by_cases h2 : i ≤ p.2 <;> simp [h1, h2]
    have hl : ∀ (f : Str × Int → R (Option D)), (∀ p, f p = R.ok (if (decide (p.1 = n) && decide (i ≤ p.2)) = true then some (.int 1) else none)) → lcM f b = .ok ((b.filter fun p => decide (p.1 = n) && decide (i ≤ p.2)).map fun _ => (.int 1 : D)) := fun f hf => by
      rw [funext hf, lcM_ok, fm_filter]; simp
    simp only [Q.m__law_holds, startE, Tst.enc, hv]
    simp [at1, at2, e, lcN_M, e2]
    rw [hl]
    · simp only [R.bind_ok, ne_nilL (hsh _), hem]; simp
    · intro p
      by_cases h1 : p.1 = n <;> by_cases h2 : i ≤ p.2 <;> simp [h1, h2]
  | been p =>
    intro k hp hk
    obtain ⟨k, rfl⟩ : ∃ k', k = k' + 1 := ⟨k - 1, by simp [Tst.dep] at hk; omega⟩
    rw [call_has, run_ok rfl]
    simp [Q.m__law_holds, startE, Tst.enc, hv, at1, at2, in_bn, ofString_beq]
  | not t ih =>
    intro k hp hk
    simp only [Tst.dep] at hk
    obtain ⟨k, rfl⟩ : ∃ k', k = k' + 1 := ⟨k - 1, by omega⟩
    rw [call_has, run_ok rfl]
    simp [Q.m__law_holds, startE, Tst.enc, hv, at1, at2, ofString_beq, ih k hp (by omega), cut_from1, lcN]
  | and s t ih1 ih2 =>
    intro k hp hk
    simp only [Tst.dep] at hk
    obtain ⟨k, rfl⟩ : ∃ k', k = k' + 1 := ⟨k - 1, by omega⟩
    rw [call_has, run_ok rfl]
    have h1 := ih1 k hp.1 (by omega)
    have h2 := ih2 k hp.2 (by omega)
    simp only [hv]
    have i0 : atOf [(.bool false : D), .bool true] 1 = some (.bool true) := at1
    cases hs : hv b ss s <;> cases ht : hv b ss t <;> (rw [hs] at h1; rw [ht] at h2; simp [Q.m__law_holds, startE, Tst.enc, at1, at2, ofString_beq, h1, h2, cut_from1, lcN, cntB, i0])
  | or s t ih1 ih2 =>
    intro k hp hk
    simp only [Tst.dep] at hk
    obtain ⟨k, rfl⟩ : ∃ k', k = k' + 1 := ⟨k - 1, by omega⟩
    rw [call_has, run_ok rfl]
    have h1 := ih1 k hp.1 (by omega)
    have h2 := ih2 k hp.2 (by omega)
    simp only [hv]
    have i0 : atOf [(.bool false : D), .bool true] 1 = some (.bool true) := at1
    cases hs : hv b ss s <;> cases ht : hv b ss t <;> (rw [hs] at h1; rw [ht] at h2; simp [Q.m__law_holds, startE, Tst.enc, at1, at2, ofString_beq, h1, h2, cut_from1, lcN, cntB, i0])
end
end BT
set_option Elab.async false
set_option linter.all false
set_option maxRecDepth 100000
set_option maxHeartbeats 4000000
/-! BTG4: small facts for the laws' own loops. -/
namespace BT
open PySem
theorem ne_self {d : D} (h : shal 60 d = true) : cmpF .ne d d = .ok false := by
  rw [c_ne h h, eqv_rfl d h]; rfl
theorem eq_self {d : D} (h : shal 60 d = true) : cmpF .eq d d = .ok true := by
  rw [c_eq h h, eqv_rfl d h]
theorem shal_bk {b : Bk} {n : Nat} : shal (n + 2) (bkD b) = true := by
  show shal (n + 1 + 1) (.tuple _) = true
  simp only [shal]
  refine shalL_of fun x hx => ?_
  · obtain ⟨p, _, rfl⟩ := List.mem_map.mp hx
    exact pD_shal
theorem nolistL_all {xs : List D} (h : ∀ x ∈ xs, nolist x = true) : nolistL xs = true := by
  induction xs with
  | nil => simp [nolistL]
  | cons x xs ih => simp only [nolistL, Bool.and_eq_true]; exact ⟨h x (.head _), ih fun y hy => h y (.tail _ hy)⟩
theorem nolist_bk {b : Bk} : nolist (bkD b) = true := by
  show nolist (.tuple _) = true
  simp only [nolist]
  refine nolistL_all fun x hx => ?_
  · obtain ⟨p, _, rfl⟩ := List.mem_map.mp hx
    simp [pD, nolist, nolistL]
theorem nb_bk {b : Bk} : nb (bkD b) = true := by
  show nb (.tuple _) = true
  simp only [nb]
  refine nbL_of fun x hx => ?_
  · obtain ⟨p, _, rfl⟩ := List.mem_map.mp hx
    simp [pD, nb, nbL]
theorem cut_to {α : Type} {xs : List α} {i : Int} (h : 0 ≤ i) : cutL xs none (some i) = xs.take i.toNat := by
  unfold cutL sIx
  simp only [List.drop_zero, Nat.sub_zero]
  rw [if_neg (by omega), ← List.take_eq_take_min]
theorem cut_from {α : Type} {xs : List α} {i : Int} (h : 0 ≤ i) : cutL xs (some i) none = xs.drop i.toNat := by
  unfold cutL sIx
  simp only
  rw [if_neg (by omega)]
  by_cases hl : i.toNat ≤ xs.length
  · rw [Nat.min_eq_left hl, List.take_of_length_le (by simp)]
  · rw [Nat.min_eq_right (by omega), List.drop_of_length_le (Nat.le_refl _), List.drop_of_length_le (by omega)]; simp
theorem dd_cut_to {ds : List Dd} {i : Int} (h : 0 ≤ i) : slcF (ddD ds) none (some i) = .ok (ddD (ds.take i.toNat)) := by
  show R.ok (PyData.tuple (cutL (ds.map Dd.enc) none (some i))) = _
  rw [cut_to h, ← List.map_take]; rfl
theorem dd_cut_from {ds : List Dd} {i : Int} (h : 0 ≤ i) : slcF (ddD ds) (some i) none = .ok (ddD (ds.drop i.toNat)) := by
  show R.ok (PyData.tuple (cutL (ds.map Dd.enc) (some i) none)) = _
  rw [cut_from h, ← List.map_drop]; rfl
theorem dd_add {ds es : List Dd} (h : ds.length + es.length < 1000) : binF .add (ddD ds) (ddD es) = .ok (ddD (ds ++ es)) := by
  show binF .add (.tuple _) (.tuple _) = _
  rw [b_addT (by simp [LIM]; omega), ← List.map_append]; rfl
theorem dd_len {ds : List Dd} : bltF .len [ddD ds] = .ok (.int ds.length) := by
  show R.ok (PyData.int ((ds.map Dd.enc).length)) = _
  rw [List.length_map]
theorem dd_nil : (.tuple [] : D) = ddD [] := rfl
theorem cell_ok {T : Tab} {wf k : Nat} {ns : List Int} (h : T.lookup ("_law_cell" : Str) = none) {j : Int} (hj : 0 ≤ j) : callN T wf (cellN ns) (k + 1) "_law_cell" [.int j] = .ok (.int (ns.getD j.toNat 0)) := by
  simp only [callN, h]
  unfold cellN
  rw [if_pos rfl]
  simp only
  rw [if_pos hj]
/-- a loop of the law: what is behind it is forgotten -/
theorem law_for {C : CallF} {wf n : Nat} {m : Int} {body : List MS} {r : En} (hm : 0 ≤ m ∧ m ≤ 1000) (hl : r.length = n)
    (step : ∀ (r : En) (j : Nat), (j : Int) < m → r.length = n → ∃ r2, evSs C wf body (put r 1 (.int j)) = .nx r2 ∧ r2.length = n) :
    ∃ r', evS C wf (.for_ (.name 1) .range1 [.int m] body) r = .nx r' ∧ r'.length = n := by
  refine for_inv (fun r => r.length = n) hl (xs := (List.range m.toNat).map fun (k : Nat) => .int (k : Int)) ?_ fun r x hx hp => ?_
  · simp only [evs, ev, R.bind_ok]; exact it_range1 (by omega)
  · obtain ⟨j, hj, rfl⟩ := List.mem_map.mp hx
    rw [List.mem_range] at hj
    obtain ⟨r2, e, h2⟩ := step r j (by omega) hp
    exact ⟨_, r2, rfl, e, h2⟩
end BT
set_option Elab.async false
set_option linter.all false
set_option maxRecDepth 100000
set_option maxHeartbeats 4000000
/-! BTT: talks and stands. -/
namespace BT
open PySem
structure Ch where
  line : Str
  test : Option Tst
  deeds : List Dd
  goal : Option Str
  once : Bool
  deriving DecidableEq
structure Pl where
  name : Str
  line : Str
  chs : List Ch
  deriving DecidableEq
abbrev Talk := List Pl
structure Sd where
  pl : Option Str
  bk : Bk
  been : List Str
  taken : Bk
  deriving DecidableEq
def oS : Option Str → D
  | none => .none
  | some s => .str s
def oT : Option Tst → D
  | none => .none
  | some t => t.enc
def Ch.enc (c : Ch) : D := .tuple [.str c.line, oT c.test, ddD c.deeds, oS c.goal, .bool c.once]
def chD (cs : List Ch) : D := .tuple (cs.map Ch.enc)
def Pl.enc (p : Pl) : D := .tuple [.str p.name, .str p.line, chD p.chs]
def tkD (t : Talk) : D := .tuple (t.map Pl.enc)
def Sd.enc (s : Sd) : D := .tuple [oS s.pl, bkD s.bk, bnD s.been, bkD s.taken]
def nsD (ks : List Nat) : D := .tuple (ks.map fun (k : Nat) => .int (k : Int))
def names (t : Talk) : List Str := t.map Pl.name
/-! ### what is computed -/
def plOf (t : Talk) (n : Str) : Option Pl := t.find? fun p => decide (p.name = n)
def chsAt (t : Talk) : Option Str → List Ch
  | none => []
  | some n => ((plOf t n).map Pl.chs).getD []
def tstAt (s : Sd) : Option Tst → Bool
  | none => true
  | some t => hv s.bk s.been t
def isOpen (s : Sd) (n : Str) (k : Nat) (c : Ch) : Bool := !(c.once && s.taken.contains (n, (k : Int))) && tstAt s c.test
def openAt (t : Talk) (s : Sd) : List Nat := match s.pl with
  | none => []
  | some n => ((chsAt t (some n)).zipIdx.filter fun p => isOpen s n p.2 p.1).map Prod.snd
def beenM (been : List Str) : Option Str → List Str
  | none => been
  | some g => if been.contains g then been else (been ++ [g]).mergeSort leS
def stepM (s : Sd) (n : Str) (k : Nat) (c : Ch) : Sd :=
  ⟨c.goal, doneM s.bk c.deeds, beenM s.been c.goal, if c.once then (s.taken ++ [(n, (k : Int))]).mergeSort leP else s.taken⟩
def afterM (t : Talk) (s : Sd) (k : Nat) : Sd := match s.pl with
  | none => s
  | some n => match (chsAt t (some n))[k]? with
    | some c => stepM s n k c
    | none => s
def beginM (t : Talk) : Sd := match t with
  | [] => ⟨none, [], [], []⟩
  | p :: _ => ⟨some p.name, [], [p.name], []⟩
def linesM (t : Talk) (s : Sd) : List Str := (openAt t s).filterMap fun k => ((chsAt t s.pl)[k]?).map Ch.line
def shownM (t : Talk) (s : Sd) : Option (Str × List Str) := match s.pl with
  | none => none
  | some n => some (((plOf t n).map Pl.line).getD "", linesM t s)
def shD : Option (Str × List Str) → D
  | none => .none
  | some p => .tuple [.str p.1, bnD p.2]
/-! ### what is right -/
structure ChOk (L ns : List Str) (c : Ch) : Prop where
  tst : ∀ t, c.test = some t → t.pos ∧ t.dep ≤ 4
  dds : ∀ d ∈ c.deeds, d.ok ∧ d.name ∈ L
  few : c.deeds.length ≤ 10
  goal : ∀ g, c.goal = some g → g ∈ ns
structure TalkOk (L : List Str) (t : Talk) : Prop where
  nd : (names t).Nodup
  ne : t ≠ []
  few : t.length ≤ 20
  fewL : L.length ≤ 30
  chs : ∀ p ∈ t, p.chs.length ≤ 20 ∧ ∀ c ∈ p.chs, ChOk L (names t) c
def ltP (p q : Str × Int) : Prop := leP p q = true ∧ p ≠ q
structure SdOk (L : List Str) (t : Talk) (s : Sd) : Prop where
  good : Good s.bk
  keys : ∀ p ∈ s.bk, p.1 ∈ L
  been : s.been.Pairwise ltS
  beenN : ∀ n ∈ s.been, n ∈ names t
  tkn : s.taken.Pairwise ltP
  tknN : ∀ p ∈ s.taken, ∃ (q : Pl) (k : Nat), q ∈ t ∧ p = (q.name, (k : Int)) ∧ k < q.chs.length
  pl : ∀ n, s.pl = some n → n ∈ s.been
theorem leP_of {p q : Str × Int} (h : ltS p.1 q.1) : leP p q = true := by
  rcases leP_T.total p q with z | z
  · exact z
  · exact (h.2 (leS_anti h.1 (leP_S z))).elim
theorem leP_anti {p q : Str × Int} (h1 : leP p q = true) (h2 : leP q p = true) : p = q := by
  have e := leD_anti h1 h2
  simp only [W.keyToks, W.keyToksAll, List.cons_append, List.nil_append, List.cons.injEq, Sum.inr.injEq, Sum.inl.injEq, and_true, true_and] at e
  exact Prod.ext (str_ext e.1) e.2
theorem ltP_trans {a b c : Str × Int} (h1 : ltP a b) (h2 : ltP b c) : ltP a c := by
  refine ⟨leP_T.trans _ _ _ h1.1 h2.1, fun e => ?_⟩
  subst e
  exact h1.2 (leP_anti h1.1 h2.1)
/-- of different things no more than there are -/
theorem nodup_le {α : Type} [DecidableEq α] : ∀ {xs ys : List α}, xs.Nodup → (∀ x ∈ xs, x ∈ ys) → xs.length ≤ ys.length
  | [], _, _, _ => Nat.zero_le _
  | x :: xs, ys, nd, h => by
    rw [List.nodup_cons] at nd
    have hx := h x (.head _)
    have h2 : ∀ y ∈ xs, y ∈ ys.erase x := fun y hy => by
      have ne : y ≠ x := fun e => nd.1 (by rw [← e]; exact hy)
      rw [List.mem_erase_of_ne ne]
      exact h y (.tail _ hy)
    have := nodup_le nd.2 h2
    rw [List.length_erase_of_mem hx] at this
    have : 0 < ys.length := List.length_pos_of_mem hx
    simp only [List.length_cons]
    omega
theorem SdOk.bkLen {L : List Str} {t : Talk} {s : Sd} (T : TalkOk L t) (h : SdOk L t s) : s.bk.length ≤ 30 := by
  have := nodup_le h.good.keys fun x hx => by
    obtain ⟨p, hp, rfl⟩ := List.mem_map.mp hx
    exact h.keys p hp
  rw [List.length_map] at this
  have := T.fewL
  omega
theorem SdOk.beenLen {L : List Str} {t : Talk} {s : Sd} (T : TalkOk L t) (h : SdOk L t s) : s.been.length ≤ 20 := by
  have nd : s.been.Nodup := h.been.imp fun h => h.2
  have := nodup_le nd h.beenN
  unfold names at this
  rw [List.length_map] at this
  have := T.few
  omega
/-- all choices, by place and number -/
def allCh (t : Talk) : Bk := t.flatMap fun q => (List.range q.chs.length).map fun (k : Nat) => (q.name, (k : Int))
theorem sum_le {l : List Nat} {m : Nat} (h : ∀ x ∈ l, x ≤ m) : l.sum ≤ l.length * m := by
  induction l with
  | nil => simp
  | cons x l ih =>
    have h1 := ih fun y hy => h y (.tail _ hy)
    have h2 := h x (.head _)
    rw [List.sum_cons, List.length_cons, Nat.add_mul]
    omega
theorem allCh_len {L : List Str} {t : Talk} (T : TalkOk L t) : (allCh t).length ≤ 400 := by
  unfold allCh
  rw [List.length_flatMap]
  have := sum_le (l := t.map fun q => ((List.range q.chs.length).map fun (k : Nat) => (q.name, (k : Int))).length) (m := 20) (fun x hx => by
    obtain ⟨q, hq, rfl⟩ := List.mem_map.mp hx
    simpa using (T.chs q hq).1)
  rw [List.length_map] at this
  have := T.few
  omega
theorem SdOk.tknLen {L : List Str} {t : Talk} {s : Sd} (T : TalkOk L t) (h : SdOk L t s) : s.taken.length ≤ 400 := by
  have nd : s.taken.Nodup := h.tkn.imp fun h => h.2
  refine Nat.le_trans (nodup_le nd fun p hp => ?_) (allCh_len T)
  obtain ⟨q, k, hq, rfl, hk⟩ := h.tknN p hp
  exact List.mem_flatMap.mpr ⟨q, hq, List.mem_map.mpr ⟨k, List.mem_range.mpr hk, rfl⟩⟩
theorem plOf_some {t : Talk} {n : Str} (h : n ∈ names t) : ∃ p, plOf t n = some p ∧ p ∈ t ∧ p.name = n := by
  obtain ⟨q, hq, e⟩ := List.mem_map.mp h
  cases e2 : plOf t n with
  | none =>
    have := List.find?_eq_none.mp e2 q hq
    simp [e] at this
  | some p =>
    exact ⟨p, rfl, List.mem_of_find?_eq_some e2, by simpa using List.find?_some e2⟩
theorem begin_ok {L : List Str} {t : Talk} (T : TalkOk L t) : SdOk L t (beginM t) := by
  cases t with
  | nil => exact absurd rfl T.ne
  | cons p t =>
    refine ⟨⟨by simp [beginM], by simp [beginM]⟩, by simp [beginM], by simp [beginM], fun n hn => ?_, by simp [beginM], by simp [beginM], by simp [beginM]⟩
    have : n = p.name := by simpa [beginM] using hn
    rw [this]; exact .head _
theorem sort_ltS {l : List Str} (nd : l.Nodup) : (l.mergeSort leS).Pairwise ltS := sortS_lt nd
theorem sort_ltP {l : Bk} (nd : l.Nodup) : (l.mergeSort leP).Pairwise ltP := by
  have h1 : (l.mergeSort leP).Pairwise fun a b => leP a b = true := List.pairwise_mergeSort (le := leP) (fun a b c h1 h2 => leP_T.trans a b c h1 h2) (fun a b => by rw [Bool.or_eq_true]; exact leP_T.total a b) l
  have h2 : (l.mergeSort leP).Nodup := (List.mergeSort_perm l leP).nodup_iff.mpr nd
  exact (h1.and h2).imp fun h => ⟨h.1, h.2⟩
theorem openAt_mem {t : Talk} {s : Sd} {k : Nat} : k ∈ openAt t s ↔ ∃ n c, s.pl = some n ∧ (chsAt t (some n))[k]? = some c ∧ isOpen s n k c = true := by
  unfold openAt
  cases s.pl with
  | none => simp
  | some n =>
    simp only [List.mem_map, List.mem_filter]
    constructor
    · rintro ⟨⟨c, j⟩, ⟨h1, h2⟩, rfl⟩
      exact ⟨n, c, rfl, List.mem_zipIdx_iff_getElem?.mp h1, h2⟩
    · rintro ⟨n', c, e, h1, h2⟩
      cases e
      exact ⟨(c, k), ⟨List.mem_zipIdx_iff_getElem?.mpr h1, h2⟩, rfl⟩
theorem chsAt_mem {t : Talk} {n : Str} {c : Ch} (h : c ∈ chsAt t (some n)) : ∃ p, plOf t n = some p ∧ p ∈ t ∧ p.name = n ∧ c ∈ p.chs := by
  have h : c ∈ ((plOf t n).map Pl.chs).getD [] := h
  cases e : plOf t n with
  | none => rw [e] at h; simp at h
  | some p =>
    rw [e] at h
    exact ⟨p, rfl, List.mem_of_find?_eq_some e, by simpa using List.find?_some e, by simpa using h⟩
theorem after_ok {L : List Str} {t : Talk} {s : Sd} {k : Nat} (T : TalkOk L t) (h : SdOk L t s) (hk : k ∈ openAt t s) : SdOk L t (afterM t s k) := by
  obtain ⟨n, c, hp, hc, ho⟩ := openAt_mem.mp hk
  have e : afterM t s k = stepM s n k c := by unfold afterM; rw [hp]; simp only [hc]
  obtain ⟨q, hq, hqt, hqn, hcq⟩ := chsAt_mem (List.mem_of_getElem? hc)
  have C := (T.chs q hqt).2 c hcq
  rw [e]
  have hd : ∀ d ∈ c.deeds, d.ok := fun d hd => (C.dds d hd).1
  have hbn : s.been.Nodup := h.been.imp fun h => h.2
  have bm : ∀ g, c.goal = some g → g ∈ beenM s.been c.goal := fun g hg => by
    rw [hg]
    show g ∈ if s.been.contains g then s.been else (s.been ++ [g]).mergeSort leS
    split
    · rename_i z; simpa using z
    · rw [(List.mergeSort_perm _ _).mem_iff]; simp
  refine ⟨done_good h.good hd, fun p hpp => ?_, ?_, fun m hm => ?_, ?_, fun p hpp => ?_, bm⟩
  · have hz : (p.1, p.2) ∈ doneM s.bk c.deeds := hpp
    have : p.1 ∈ (c.deeds.foldl stepD s.bk).map Prod.fst := by
      unfold doneM canon at hz
      obtain ⟨m, hm, e2⟩ := List.mem_filterMap.mp hz
      rw [(List.mergeSort_perm _ _).mem_iff] at hm
      split at e2
      · injection e2 with e2; injection e2 with e2 e3
        rw [← e2]; exact hm
      · cases e2
    have key : ∀ (ds : List Dd) (b : Bk), (∀ d ∈ ds, d.name ∈ L) → (∀ x ∈ b.map Prod.fst, x ∈ L) → ∀ x ∈ (ds.foldl stepD b).map Prod.fst, x ∈ L := fun ds => by
      induction ds with
      | nil => intro b _ hb; exact hb
      | cons d ds ih =>
        intro b hds hb
        refine ih (stepD b d) (fun e he => hds e (.tail _ he)) fun x hx => ?_
        unfold stepD at hx
        rw [aput_keys] at hx
        split at hx
        · exact hb x hx
        · rcases List.mem_append.mp hx with z | z
          · exact hb x z
          · rw [List.mem_singleton.mp z]; exact hds d (.head _)
    exact key c.deeds s.bk (fun d hd => (C.dds d hd).2) (fun x hx => by
      obtain ⟨p', hp', rfl⟩ := List.mem_map.mp hx
      exact h.keys p' hp') _ this
  · show (beenM s.been c.goal).Pairwise ltS
    unfold beenM
    split
    · exact h.been
    · split
      · exact h.been
      · rename_i z
        refine sort_ltS ?_
        rw [List.nodup_append]
        refine ⟨hbn, by simp, fun a ha b hb e => ?_⟩
        have := List.mem_singleton.mp hb
        subst this; subst e
        exact z (by simpa using ha)
  · have hm : m ∈ beenM s.been c.goal := hm
    unfold beenM at hm
    split at hm
    · exact h.beenN m hm
    · rename_i g hg
      split at hm
      · exact h.beenN m hm
      · rw [(List.mergeSort_perm _ _).mem_iff] at hm
        rcases List.mem_append.mp hm with z | z
        · exact h.beenN m z
        · rw [List.mem_singleton.mp z]; exact C.goal _ hg
  · show (if c.once then (s.taken ++ [(n, (k : Int))]).mergeSort leP else s.taken).Pairwise ltP
    split
    · rename_i honce
      refine sort_ltP ?_
      rw [List.nodup_append]
      refine ⟨h.tkn.imp fun h => h.2, by simp, fun a ha b hb e => ?_⟩
      have := List.mem_singleton.mp hb
      subst this; subst e
      unfold isOpen at ho
      rw [honce] at ho
      simp at ho
      exact ho.1 ha
    · exact h.tkn
  · have hpp : p ∈ (if c.once then (s.taken ++ [(n, (k : Int))]).mergeSort leP else s.taken) := hpp
    split at hpp
    · rw [(List.mergeSort_perm _ _).mem_iff] at hpp
      rcases List.mem_append.mp hpp with z | z
      · exact h.tknN p z
      · rw [List.mem_singleton.mp z]
        refine ⟨q, k, hqt, by rw [hqn], ?_⟩
        have : chsAt t (some n) = q.chs := by show ((plOf t n).map Pl.chs).getD [] = _; rw [hq]; rfl
        rw [this] at hc
        exact (List.getElem?_eq_some_iff.mp hc).1
    · exact h.tknN p hpp
end BT
set_option Elab.async false
set_option linter.all false
set_option maxRecDepth 100000
set_option maxHeartbeats 4000000
/-! BTU: what the functions of stands compute. -/
namespace BT
open PySem
theorem in_bk {b : Bk} {p : Str × Int} : cmpF .isin (pD p) (bkD b) = .ok (b.contains p) := by
  rw [c_in]
  have h1 : shalL 60 (b.map pD) = true := shalL_of fun x hx => by
    obtain ⟨y, _, rfl⟩ := List.mem_map.mp hx
    exact pD_shal
  show R.gd (shal 60 (pD p) && shalL 60 (b.map pD)) _ = _
  rw [h1, pD_shal]
  have h2 : ((b.map pD).any fun z => PyData.eqv z (pD p)) = b.contains p := by
    rw [List.any_map]
    clear h1
    induction b with
    | nil => rfl
    | cons x b ih =>
      rw [List.any_cons, List.contains_cons, ih]
      congr 1
      show PyData.eqv (pD x) (pD p) = _
      rw [Bool.eq_iff_iff, beq_iff_eq, eqv_iff _ _ (by simp [pD, nb, nbL]) (by simp [pD, nb, nbL])]
      constructor
      · intro e
        simp only [pD, PyData.tuple.injEq, List.cons.injEq, PyData.str.injEq, PyData.int.injEq, and_true] at e
        exact Prod.ext e.1.symm e.2.symm
      · intro e; rw [e]
  rw [h2]; rfl
theorem in_ns {ks : List Nat} {j : Int} : cmpF .isin (.int j) (nsD ks) = .ok (decide (0 ≤ j) && ks.contains j.toNat) := by
  rw [c_in]
  have h1 : shalL 60 (ks.map fun (k : Nat) => (.int (k : Int) : D)) = true := shalL_of fun x hx => by
    obtain ⟨y, _, rfl⟩ := List.mem_map.mp hx
    simp [shal]
  show R.gd (shal 60 (.int j) && shalL 60 (ks.map fun (k : Nat) => .int (k : Int))) _ = _
  rw [h1]
  have h2 : ((ks.map fun (k : Nat) => (.int (k : Int) : D)).any fun z => PyData.eqv z (.int j)) = (decide (0 ≤ j) && ks.contains j.toNat) := by
    rw [List.any_map]
    clear h1
    induction ks with
    | nil => simp
    | cons x ks ih =>
      rw [List.any_cons, List.contains_cons, ih]
      show (PyData.eqv (.int (x : Int)) (.int j) || _) = _
      rw [show PyData.eqv (.int (x : Int)) (.int j) = ((x : Int) == j) from by simp [PyData.eqv]]
      by_cases hj : 0 ≤ j
      · have : ((x : Int) == j) = (j.toNat == x) := by
          rw [Bool.eq_iff_iff, beq_iff_eq, beq_iff_eq]; omega
        rw [this]; simp [hj]
      · have : ((x : Int) == j) = false := by rw [beq_eq_false_iff_ne]; omega
        rw [this]; simp [hj]
  rw [h2]; simp [shal]
theorem in_nsN {ks : List Nat} {j : Nat} : cmpF .isin (.int (j : Int)) (nsD ks) = .ok (ks.contains j) := by
  rw [in_ns]; simp
theorem nin_of {x y : D} {b : Bool} (h : cmpF .isin x y = .ok b) : cmpF .notin x y = .ok (!b) := by
  rw [c_nin, ← c_in, h]; rfl
theorem head_find {α : Type} {p : α → Bool} {g : α → D} {l : List α} {x : α} (h : l.find? p = some x) : atOf ((l.filter p).map g) 0 = some (g x) := by
  have h1 : (l.filter p).head? = some x := by rw [List.head?_filter]; exact h
  cases e : l.filter p with
  | nil => rw [e] at h1; cases h1
  | cons y ys =>
    rw [e] at h1
    injection h1 with h1; subst h1
    exact at0
theorem at_ch {cs : List Ch} {k : Nat} {c : Ch} (h : cs[k]? = some c) : idxF (chD cs) (.int (k : Int)) = .ok c.enc := by
  show R.ofO (atOf (cs.map Ch.enc) (k : Int)) = _
  have hl := (List.getElem?_eq_some_iff.mp h).1
  rw [atOf_nat (by omega) (by simpa using hl)]
  simp [h]
theorem ch_at0 {c : Ch} : idxF c.enc (.int 0) = .ok (.str c.line) := rfl
theorem pl_at0 {p : Pl} : idxF p.enc (.int 0) = .ok (.str p.name) := rfl
theorem sd_at0 {s : Sd} : idxF s.enc (.int 0) = .ok (oS s.pl) := rfl
theorem sd_at1 {s : Sd} : idxF s.enc (.int 1) = .ok (bkD s.bk) := rfl
theorem sd_at2 {s : Sd} : idxF s.enc (.int 2) = .ok (bnD s.been) := rfl
theorem sd_at3 {s : Sd} : idxF s.enc (.int 3) = .ok (bkD s.taken) := rfl
theorem pl_cut {p : Pl} : slcF p.enc (some 1) none = .ok (.tuple [.str p.line, chD p.chs]) := by
  show R.ok (PyData.tuple (cutL [.str p.name, .str p.line, chD p.chs] (some 1) none)) = _
  rw [cut_from1]
theorem it_tk {t : Talk} : itemsF .plain [tkD t] = .ok (t.map Pl.enc) := rfl
theorem it_en {cs : List Ch} : itemsF .enum [chD cs] = .ok (cs.zipIdx.map fun p => .tuple [.int (p.2 : Int), p.1.enc]) := by
  show R.ok _ = _
  rw [List.zipIdx_map, List.map_map]; rfl
theorem it_ns {ks : List Nat} : itemsF .plain [nsD ks] = .ok (ks.map fun (k : Nat) => .int (k : Int)) := rfl
theorem asg5 {i j l m n : Nat} {a b c d e : D} {r : En} : asg (.tup [i, j, l, m, n]) (.tuple [a, b, c, d, e]) r = .ok (put (put (put (put (put r i a) j b) l c) m d) n e) := rfl
theorem asg4 {i j l m : Nat} {a b c d : D} {r : En} : asg (.tup [i, j, l, m]) (.tuple [a, b, c, d]) r = .ok (put (put (put (put r i a) j b) l c) m d) := rfl
theorem isNon_oS {o : Option Str} : isNon (oS o) = o.isNone := by cases o <;> rfl
theorem isNon_oT {o : Option Tst} : isNon (oT o) = o.isNone := by
  cases o with
  | none => rfl
  | some t => cases t <;> rfl
@[simp] theorem oS_n : oS none = .none := rfl
@[simp] theorem oS_s {g : Str} : oS (some g) = .str g := rfl
@[simp] theorem isN_n : isNon .none = true := rfl
@[simp] theorem isN_s {g : Str} : isNon (.str g) = false := rfl
theorem sort_bn {l : List Str} : bltF .sorted [.tuple (l.map .str)] = .ok (.list ((l.mergeSort leS).map .str)) := by
  show R.gd _ _ = _
  have h : sortOk (l.map .str) = true := by
    unfold sortOk
    have h1 : ((l.map (.str : Str → D)).all fun x => (l.map (.str : Str → D)).all fun y => W.alike x y) = true := by
      rw [List.all_map, List.all_eq_true]
      intro p _
      simp only [Function.comp]
      rw [List.all_map, List.all_eq_true]
      intro q _
      simp [W.alike]
    have h2 : shalL 60 (l.map (.str : Str → D)) = true := shalL_of fun x hx => by
      obtain ⟨p, _, rfl⟩ := List.mem_map.mp hx
      simp [shal]
    rw [h1, h2]
    simp [List.all_map, Function.comp_def]
  rw [h, List.map_mergeSort (r := leS) (s := leD) (f := (.str : Str → D)) (fun a _ b _ => rfl)]
  rfl
section
variable {T : Tab} {wf k : Nat} {nat : CallF} {L : List Str} {t : Talk} {s : Sd}
theorem begun_ok [Has T "begun" Q.m_begun] (h : t ≠ []) (hk : 1 ≤ k) : callN T wf nat k "begun" [tkD t] = .ok (beginM t).enc := by
  obtain ⟨k, rfl⟩ : ∃ k', k = k' + 1 := ⟨k - 1, by omega⟩
  rw [call_has, run_ok rfl]
  cases t with
  | nil => exact absurd rfl h
  | cons p t =>
    have e : idxF (tkD (p :: t)) (.int 0) = .ok p.enc := by show R.ofO (atOf (p.enc :: _) 0) = _; rw [at0]; rfl
    simp [Q.m_begun, startE, e, pl_at0, beginM, Sd.enc, oS, bkD, bnD]
theorem placeOf_ok [Has T "place_of" Q.m_place_of] {n : Str} {p : Pl} (h : plOf t n = some p) (hk : 1 ≤ k) : callN T wf nat k "place_of" [tkD t, .str n] = .ok (.tuple [.str p.line, chD p.chs]) := by
  obtain ⟨k, rfl⟩ : ∃ k', k = k' + 1 := ⟨k - 1, by omega⟩
  rw [call_has, run_ok rfl]
  have e := head_find (g := fun p : Pl => (.tuple [.str p.line, chD p.chs] : D)) h
  simp [Q.m_place_of, startE, it_tk, lcN_M, pl_at0, pl_cut, ite_ok, lcM_ok, fm_filter, e]
theorem choicesAt_ok [Has T "place_of" Q.m_place_of] [Has T "choices_at" Q.m_choices_at] (h : ∀ n, s.pl = some n → n ∈ names t) (hk : 2 ≤ k) : callN T wf nat k "choices_at" [tkD t, s.enc] = .ok (chD (chsAt t s.pl)) := by
  obtain ⟨k, rfl⟩ : ∃ k', k = k' + 1 := ⟨k - 1, by omega⟩
  rw [call_has, run_ok rfl]
  cases e : s.pl with
  | none => simp [Q.m_choices_at, startE, sd_at0, e, isNon_oS, chsAt, chD]
  | some n =>
    obtain ⟨p, e2, _, _⟩ := plOf_some (h n e)
    have e3 := placeOf_ok (T := T) (wf := wf) (nat := nat) e2 (k := k) (by omega)
    simp [Q.m_choices_at, startE, sd_at0, e, isNon_oS, chsAt, e2, at1]
    simp [oS, e3, at1]
theorem isOpen_ok [Has T "holds" Q.m_holds] [Has T "is_open" Q.m_is_open] {n : Str} {j : Nat} {c : Ch} (hg : Good s.bk) (hp : s.pl = some n) (hc : ∀ t, c.test = some t → t.dep ≤ 4) (hk : 5 ≤ k) : callN T wf nat k "is_open" [s.enc, .int j, c.enc] = .ok (.bool (isOpen s n j c)) := by
  obtain ⟨k, rfl⟩ : ∃ k', k = k' + 1 := ⟨k - 1, by omega⟩
  rw [call_has, run_ok rfl]
  have e1 : ∀ r, asg (.tup [3, 4, 5, 6, 7]) c.enc r = .ok (put (put (put (put (put r 3 (.str c.line)) 4 (oT c.test)) 5 (ddD c.deeds)) 6 (oS c.goal)) 7 (.bool c.once)) := fun r => rfl
  have e2 : ∀ r, asg (.tup [8, 9, 10, 11]) s.enc r = .ok (put (put (put (put r 8 (oS s.pl)) 9 (bkD s.bk)) 10 (bnD s.been)) 11 (bkD s.taken)) := fun r => rfl
  have e3 := in_bk (b := s.taken) (p := (n, (j : Int)))
  simp only [pD] at e3
  rw [hp] at e2
  simp only [oS] at e2
  have fin : (ev (callN T wf nat k) (.or (.cmp .is_ (.var 4) .non) (.call "holds" [.var 4, .var 9, .var 10])) [some s.enc, some (.int j), some c.enc, some (.str c.line), some (oT c.test), some (ddD c.deeds), some (oS c.goal), some (.bool c.once), some (.str n), some (bkD s.bk), some (bnD s.been), some (bkD s.taken)]) = .ok (.bool (tstAt s c.test)) := by
    cases ht : c.test with
    | none => simp [oT, isNon, tstAt]
    | some u =>
      have e4 := holds_ok (T := T) (wf := wf) (nat := nat) (ss := s.been) hg.keys u k (by have := hc u ht; omega)
      have e5 : isNon u.enc = false := by cases u <;> rfl
      simp [oT, e5, tstAt, e4]
  unfold isOpen
  generalize tstAt s c.test = b at fin
  rw [show (Q.m_is_open.body) = [.unp [3, 4, 5, 6, 7] (.var 2), .unp [8, 9, 10, 11] (.var 0), .iff (.and (.var 7) (.cmp .isin (.tup [.var 8, .var 1]) (.var 11))) [.ret (.bl false)] [], .ret (.or (.cmp .is_ (.var 4) .non) (.call "holds" [.var 4, .var 9, .var 10]))] from rfl]
  generalize (M.or (.cmp .is_ (.var 4) .non) (.call "holds" [.var 4, .var 9, .var 10])) = E at fin ⊢
  cases ho : c.once with
  | false => rw [ho] at fin e1; simp [startE, Q.m_is_open, e1, e2, fin]
  | true =>
    rw [ho] at fin e1
    cases ht : s.taken.contains (n, (j : Int)) with
    | true => rw [ht] at e3; simp [startE, Q.m_is_open, e1, e2, e3]
    | false => rw [ht] at e3; simp [startE, Q.m_is_open, e1, e2, e3, fin]
theorem SdOk.plN (h : SdOk L t s) : ∀ n, s.pl = some n → n ∈ names t := fun n e => h.beenN n (h.pl n e)
theorem openAt_ok [Has T "holds" Q.m_holds] [Has T "is_open" Q.m_is_open] [Has T "place_of" Q.m_place_of] [Has T "choices_at" Q.m_choices_at] [Has T "open_at" Q.m_open_at] (TK : TalkOk L t) (h : SdOk L t s) (hk : 6 ≤ k) : callN T wf nat k "open_at" [tkD t, s.enc] = .ok (nsD (openAt t s)) := by
  obtain ⟨k, rfl⟩ : ∃ k', k = k' + 1 := ⟨k - 1, by omega⟩
  rw [call_has, run_ok rfl]
  have e1 := choicesAt_ok (T := T) (wf := wf) (nat := nat) (k := k) h.plN (by omega)
  cases hp : s.pl with
  | none =>
    rw [hp] at e1
    have e2 := it_en (cs := chsAt t none)
    have e3 : openAt t s = [] := by unfold openAt; rw [hp]
    rw [show chsAt t none = [] from rfl] at e1 e2
    simp [Q.m_open_at, startE, e1, e2, lcN, e3, nsD]
  | some n =>
    rw [hp] at e1
    have e2 := it_en (cs := chsAt t (some n))
    have e3 : openAt t s = ((chsAt t (some n)).zipIdx.filter fun p => isOpen s n p.2 p.1).map Prod.snd := by unfold openAt; rw [hp]
    have e4 : ∀ (f : Ch × Nat → R (Option D)), (∀ p ∈ (chsAt t (some n)).zipIdx, f p = .ok (if isOpen s n p.2 p.1 then some (.int (p.2 : Int)) else none)) → lcM f (chsAt t (some n)).zipIdx = .ok ((((chsAt t (some n)).zipIdx.filter fun p => isOpen s n p.2 p.1).map fun p => .int (p.2 : Int))) := fun f hf => by
      rw [lcM_congr hf, lcM_ok, fm_filter]; simp
    simp only [Q.m_open_at, startE]
    simp [e1, e2, lcN_M, asg2]
    rw [e4]
    · simp [e3, nsD, List.map_map, Function.comp_def]
    · intro p hpm
      have hm : p.1 ∈ chsAt t (some n) := by
        obtain ⟨c, j⟩ := p
        exact List.mem_of_getElem? (List.mem_zipIdx_iff_getElem?.mp hpm)
      obtain ⟨q, _, hqt, _, hcq⟩ := chsAt_mem hm
      have C := (TK.chs q hqt).2 p.1 hcq
      have e5 := isOpen_ok (T := T) (wf := wf) (nat := nat) (k := k) (s := s) (n := n) (j := p.2) (c := p.1) h.good hp (fun t ht => (C.tst t ht).2) (by omega)
      rw [e5]
      cases isOpen s n p.2 p.1 <;> simp
theorem line_at {ks : List Nat} {cs : List Ch} (h : ∀ k ∈ ks, k < cs.length) : lcM (fun k : Nat => ((idxF (chD cs) (.int (k : Int))).bind fun x => idxF x (.int 0)).bind fun y => .ok (some y)) ks = .ok ((ks.filterMap fun k => (cs[k]?).map Ch.line).map .str) := by
  induction ks with
  | nil => rfl
  | cons k ks ih =>
    have h1 := ih fun j hj => h j (.tail _ hj)
    have hk := h k (.head _)
    unfold lcM
    rw [at_ch (List.getElem?_eq_getElem hk), h1]
    simp [ch_at0, List.getElem?_eq_getElem hk]
theorem openAt_lt {k : Nat} (hk : k ∈ openAt t s) : k < (chsAt t s.pl).length := by
  obtain ⟨n, c, e, h1, _⟩ := openAt_mem.mp hk
  rw [e]
  exact (List.getElem?_eq_some_iff.mp h1).1
theorem shown_ok [Has T "holds" Q.m_holds] [Has T "is_open" Q.m_is_open] [Has T "place_of" Q.m_place_of] [Has T "choices_at" Q.m_choices_at] [Has T "open_at" Q.m_open_at] [Has T "shown" Q.m_shown] (TK : TalkOk L t) (h : SdOk L t s) (hk : 7 ≤ k) : callN T wf nat k "shown" [tkD t, s.enc] = .ok (shD (shownM t s)) := by
  obtain ⟨k, rfl⟩ : ∃ k', k = k' + 1 := ⟨k - 1, by omega⟩
  rw [call_has, run_ok rfl]
  have e1 := openAt_ok (T := T) (wf := wf) (nat := nat) (k := k) TK h (by omega)
  cases hp : s.pl with
  | none =>
    simp [Q.m_shown, startE, sd_at0, hp, isNon_oS, shownM, shD]
  | some n =>
    obtain ⟨p, e2, _, _⟩ := plOf_some (h.plN n hp)
    have e3 := placeOf_ok (T := T) (wf := wf) (nat := nat) e2 (k := k) (by omega)
    have e4 := line_at (ks := openAt t s) (cs := p.chs) (fun j hj => by
      have := openAt_lt hj
      rw [hp] at this
      have hc : chsAt t (some n) = p.chs := by show ((plOf t n).map Pl.chs).getD [] = _; rw [e2]; rfl
      rwa [hc] at this)
    have hc : chsAt t (some n) = p.chs := by show ((plOf t n).map Pl.chs).getD [] = _; rw [e2]; rfl
    have e5 : shownM t s = some (p.line, (openAt t s).filterMap fun k => (p.chs[k]?).map Ch.line) := by
      unfold shownM linesM
      rw [hp]
      simp only [e2, hc]; rfl
    rw [e5]
    simp only [Q.m_shown, startE]
    simp [sd_at0, hp, oS, isNon, e3, asg2, e1, it_ns, lcN_M, e4, shD, bnD]
theorem after_runs [Has T "holds" Q.m_holds] [Has T "is_open" Q.m_is_open] [Has T "place_of" Q.m_place_of] [Has T "choices_at" Q.m_choices_at] [Has T "open_at" Q.m_open_at] [Has T "done" Q.m_done] [Has T "after" Q.m_after] (TK : TalkOk L t) (h : SdOk L t s) {j : Nat} (hj : j ∈ openAt t s) (hk : 7 ≤ k) : callN T wf nat k "after" [tkD t, s.enc, .int j] = .ok (afterM t s j).enc := by
  obtain ⟨k, rfl⟩ : ∃ k', k = k' + 1 := ⟨k - 1, by omega⟩
  rw [call_has, run_ok rfl]
  have e1 := openAt_ok (T := T) (wf := wf) (nat := nat) (k := k) TK h (by omega)
  have e2 := choicesAt_ok (T := T) (wf := wf) (nat := nat) (k := k) h.plN (by omega)
  obtain ⟨n, c, hp, hc, ho⟩ := openAt_mem.mp hj
  have e3 : afterM t s j = stepM s n j c := by unfold afterM; rw [hp]; simp only [hc]
  rw [hp] at e2
  obtain ⟨q, hq, hqt, hqn, hcq⟩ := chsAt_mem (List.mem_of_getElem? hc)
  have C := (TK.chs q hqt).2 c hcq
  have e4 := at_ch hc
  have e5 := nin_of (in_nsN (ks := openAt t s) (j := j))
  have e6 : (openAt t s).contains j = true := by simpa using hj
  rw [e6] at e5
  have e7 := done_ok (T := T) (wf := wf) (nat := nat) (k := k) (b := s.bk) (ds := c.deeds) h.good.keys (by have := h.bkLen TK; have := C.few; omega) (by omega)
  have a1 : ∀ r, asg (.tup [3, 4, 5, 6, 7]) c.enc r = .ok (put (put (put (put (put r 3 (.str c.line)) 4 (oT c.test)) 5 (ddD c.deeds)) 6 (oS c.goal)) 7 (.bool c.once)) := fun r => rfl
  have a2 : ∀ r, asg (.tup [8, 9, 10, 11]) s.enc r = .ok (put (put (put (put r 8 (oS s.pl)) 9 (bkD s.bk)) 10 (bnD s.been)) 11 (bkD s.taken)) := fun r => rfl
  have b1 : binF .add (bkD s.taken) (.tuple [.tuple [oS s.pl, .int j]]) = .ok (.tuple ((s.taken ++ [(n, (j : Int))]).map pD)) := by
    show binF .add (.tuple (s.taken.map pD)) _ = _
    rw [b_addT (by have := h.tknLen TK; simp [LIM]; omega), hp]
    simp [pD, oS]
  have b2 := sort_bkT (h := s.taken ++ [(n, (j : Int))])
  have b3 : ∀ g, binF .add (bnD s.been) (.tuple [.str g]) = .ok (.tuple ((s.been ++ [g]).map .str)) := fun g => by
    show binF .add (.tuple (s.been.map .str)) _ = _
    rw [b_addT (by have := h.beenLen TK; simp [LIM]; omega)]
    simp
  have b4 : ∀ g, bltF .sorted [.tuple ((s.been ++ [g]).map .str)] = .ok (.list (((s.been ++ [g]).mergeSort leS).map .str)) := fun g => sort_bn
  have b5 : ∀ l : Bk, bltF .tuple [.list (l.map pD)] = .ok (bkD l) := fun l => rfl
  have b6 : ∀ l : List Str, bltF .tuple [.list (l.map .str)] = .ok (bnD l) := fun l => rfl
  rw [e3]
  have e9 : (stepM s n j c).enc = .tuple [oS c.goal, bkD (doneM s.bk c.deeds), bnD (beenM s.been c.goal), bkD (if c.once then (s.taken ++ [(n, (j : Int))]).mergeSort leP else s.taken)] := rfl
  rw [e9]
  clear e9
  cases hg : c.goal with
  | none =>
    rw [hg] at a1
    cases hon : c.once with
    | false => rw [hon] at a1; simp [Q.m_after, startE, e1, e5, e2, e4, a1, a2, e7, beenM]
    | true => rw [hon] at a1; simp [-List.map_append, Q.m_after, startE, e1, e5, e2, e4, a1, a2, e7, beenM, b1, b2, b5]
  | some g =>
    rw [hg] at a1
    have e8 := nin_of (in_bn (ss := s.been) (s := g))
    cases hin : s.been.contains g with
    | true =>
      rw [hin] at e8
      have hb : beenM s.been (some g) = s.been := by show (if s.been.contains g then _ else _) = _; rw [hin]; rfl
      cases hon : c.once with
      | false => rw [hon] at a1; simp [Q.m_after, startE, e1, e5, e2, e4, a1, a2, e7, hb, e8]
      | true => rw [hon] at a1; simp [-List.map_append, Q.m_after, startE, e1, e5, e2, e4, a1, a2, e7, hb, b1, b2, b5, e8]
    | false =>
      rw [hin] at e8
      have hb : beenM s.been (some g) = (s.been ++ [g]).mergeSort leS := by show (if s.been.contains g then _ else _) = _; rw [hin]; rfl
      cases hon : c.once with
      | false => rw [hon] at a1; simp [-List.map_append, Q.m_after, startE, e1, e5, e2, e4, a1, a2, e7, hb, e8, b3, b4, b6]
      | true => rw [hon] at a1; simp [-List.map_append, Q.m_after, startE, e1, e5, e2, e4, a1, a2, e7, hb, b1, b2, b5, e8, b3, b4, b6]
end
end BT
set_option Elab.async false
set_option linter.all false
set_option maxRecDepth 100000
set_option maxHeartbeats 4000000
/-! BTV: what the laws' own functions compute: drawn talks, what is open by hand. -/
namespace BT
open PySem
theorem forN_find {α : Type} {tg : Tg} {body : En → F} (enc : α → D) (E : En → Prop) (p : α → Bool) (out : α → D) : ∀ (xs : List α) (r : En), E r →
    (∀ x r, x ∈ xs → E r → ∃ r1, asg tg (enc x) r = .ok r1 ∧ (p x = true → body r1 = .rt (out x)) ∧ (p x = false → ∃ r2, body r1 = .nx r2 ∧ E r2)) →
    (∃ x, xs.find? p = some x ∧ forN tg body (xs.map enc) r = .rt (out x)) ∨ (xs.find? p = none ∧ ∃ r', forN tg body (xs.map enc) r = .nx r' ∧ E r')
  | [], r, h, _ => .inr ⟨rfl, r, rfl, h⟩
  | x :: xs, r, h, hs => by
    obtain ⟨r1, e1, h1, h2⟩ := hs x r (.head _) h
    rw [List.map_cons]
    unfold forN
    rw [e1, R.toF_ok, List.find?_cons]
    cases hp : p x with
    | true => exact .inl ⟨x, rfl, by rw [h1 hp]; rfl⟩
    | false =>
      obtain ⟨r2, e2, h3⟩ := h2 hp
      rw [e2, F.turn_nx]
      exact forN_find enc E p out xs r2 h3 fun y r hy => hs y r (.tail _ hy)
def Tst.places : Tst → List Str
  | .has _ _ => []
  | .been p => [p]
  | .not t => t.places
  | .and a b => a.places ++ b.places
  | .or a b => a.places ++ b.places
theorem Tst.places_len : ∀ (t : Tst), t.places.length ≤ 2 ^ t.dep
  | .has _ _ => by simp [Tst.places]
  | .been _ => by simp [Tst.places, Tst.dep]
  | .not t => by
    have := places_len t
    simp only [Tst.places, Tst.dep, Nat.pow_succ]; omega
  | .and a b => by
    have h1 := places_len a
    have h2 := places_len b
    have h3 : 2 ^ a.dep ≤ 2 ^ (max a.dep b.dep) := Nat.pow_le_pow_right (by omega) (Nat.le_max_left _ _)
    have h4 : 2 ^ b.dep ≤ 2 ^ (max a.dep b.dep) := Nat.pow_le_pow_right (by omega) (Nat.le_max_right _ _)
    simp only [Tst.places, Tst.dep, Nat.pow_succ, List.length_append]; omega
  | .or a b => by
    have h1 := places_len a
    have h2 := places_len b
    have h3 : 2 ^ a.dep ≤ 2 ^ (max a.dep b.dep) := Nat.pow_le_pow_right (by omega) (Nat.le_max_left _ _)
    have h4 : 2 ^ b.dep ≤ 2 ^ (max a.dep b.dep) := Nat.pow_le_pow_right (by omega) (Nat.le_max_right _ _)
    simp only [Tst.places, Tst.dep, Nat.pow_succ, List.length_append]; omega
theorem in_lst {ss : List Str} {s : Str} : cmpF .isin (.str s) (.list (ss.map .str)) = .ok (ss.contains s) := in_bn (ss := ss) (s := s)
structure DrawnCh (ns : List Str) (c : Ch) : Prop where
  line : c.line = "yes" ∨ c.line = "no" ∨ c.line = "why?" ∨ c.line = "go on"
  tst : ∀ t, c.test = some t → t.gen ∧ t.dep ≤ 2 ∧ ∀ n ∈ t.places, n ∈ ns
  dds : ∀ d ∈ c.deeds, d.gen
  few : c.deeds.length ≤ 2
  goal : ∀ g, c.goal = some g → g ∈ ns
structure Drawn (most : Nat) (t : Talk) : Prop where
  nm : ∃ m, 1 ≤ m ∧ m ≤ most ∧ m ≤ 4 ∧ names t = (["a", "b", "c", "d"] : List Str).take m
  line : ∀ p ∈ t, p.line = "hello" ∨ p.line = "well" ∨ p.line = "so be it"
  few : ∀ p ∈ t, p.chs.length ≤ 3
  chs : ∀ p ∈ t, ∀ c ∈ p.chs, DrawnCh (names t) c
theorem abcd_nd : (["a", "b", "c", "d"] : List Str).Nodup := by decide +kernel
def XY : List Str := ["x", "y"]
theorem Drawn.ok {most : Nat} {t : Talk} (h : Drawn most t) : TalkOk XY t := by
  obtain ⟨m, h1, h2, h3, e⟩ := h.nm
  have hl : t.length = m := by
    have : (names t).length = m := by rw [e]; simp; omega
    simpa [names] using this
  refine ⟨by rw [e]; exact abcd_nd.sublist (List.take_sublist _ _), fun z => by rw [z] at hl; simp at hl; omega, by omega, by decide, fun p hp => ⟨by have := h.few p hp; omega, fun c hc => ?_⟩⟩
  have D := h.chs p hp c hc
  refine ⟨fun t ht => ⟨Tst.gen_pos (D.tst t ht).1, by have := (D.tst t ht).2.1; omega⟩, fun d hd => ⟨Dd.gen_ok (D.dds d hd), ?_⟩, by have := D.few; omega, D.goal⟩
  rcases (D.dds d hd).1 with z | z
  · rw [z]; exact .head _
  · rw [z]; exact .tail _ (.head _)
theorem pick3 {α : Type} {a b c : α} {i : Int} (h0 : 0 ≤ i) (h1 : i < 3) : ∃ x, atOf [a, b, c] i = some x ∧ (x = a ∨ x = b ∨ x = c) := by
  rw [atOf_nat h0 (by simpa using h1)]
  have : i = 0 ∨ i = 1 ∨ i = 2 := by omega
  rcases this with rfl | rfl | rfl
  · exact ⟨a, rfl, .inl rfl⟩
  · exact ⟨b, rfl, .inr (.inl rfl)⟩
  · exact ⟨c, rfl, .inr (.inr rfl)⟩
theorem goal_at {ns : List Str} {i : Int} (h0 : 0 ≤ i) (h1 : i < (ns.length : Int) + 1) : ∃ g : Option Str, atOf (ns.map (.str : Str → D) ++ [.none]) i = some (oS g) ∧ ∀ x, g = some x → x ∈ ns := by
  rw [atOf_nat h0 (by simp; omega)]
  by_cases hi : i.toNat < ns.length
  · refine ⟨some ns[i.toNat], ?_, fun x e => ?_⟩
    · rw [List.getElem?_append_left (by simpa using hi), List.getElem?_map, List.getElem?_eq_getElem hi]; rfl
    · injection e with e; rw [← e]; exact List.getElem_mem hi
  · refine ⟨none, ?_, fun x e => (by cases e)⟩
    rw [List.getElem?_append_right (by simpa using hi)]
    have : i.toNat - (ns.map (.str : Str → D)).length = 0 := by simp; omega
    rw [this]; rfl
section
variable {T : Tab} {wf k : Nat} {nat : CallF} {L : List Str} {t : Talk} {s : Sd}
theorem places_ok [Has T "_law_places_of" Q.m__law_places_of] : ∀ (u : Tst) (k : Nat), u.dep ≤ k → u.dep ≤ 10 → callN T wf nat k "_law_places_of" [u.enc] = .ok (.list (u.places.map .str)) := by
  intro u
  have hin : ∀ w : Str, cmpF .isin (.str w) (.tuple [.str "has", .str "been"]) = .ok ((["has", "been"] : List Str).contains w) := fun w => in_bn (ss := ["has", "been"]) (s := w)
  induction u with
  | has n i =>
    intro k hk _
    obtain ⟨k, rfl⟩ : ∃ k', k = k' + 1 := ⟨k - 1, by simp [Tst.dep] at hk; omega⟩
    rw [call_has, run_ok rfl]
    simp [Q.m__law_places_of, startE, Tst.enc, hin, ofString_beq, Tst.places, ofString_inj]
  | been p =>
    intro k hk _
    obtain ⟨k, rfl⟩ : ∃ k', k = k' + 1 := ⟨k - 1, by simp [Tst.dep] at hk; omega⟩
    rw [call_has, run_ok rfl]
    simp [Q.m__law_places_of, startE, Tst.enc, hin, at1, ofString_beq, Tst.places, ofString_inj]
  | not u ih =>
    intro k hk h10
    simp only [Tst.dep] at hk h10
    obtain ⟨k, rfl⟩ : ∃ k', k = k' + 1 := ⟨k - 1, by omega⟩
    rw [call_has, run_ok rfl]
    have hl := Tst.places_len u
    have h2 : 2 ^ u.dep ≤ 2 ^ 10 := Nat.pow_le_pow_right (by omega) (by omega)
    have e1 := b_addL (x := []) (y := u.places.map (.str : Str → D)) (by simp [LIM]; omega)
    simp [Q.m__law_places_of, startE, Tst.enc, hin, ofString_beq, ofString_inj, cut_from1, forN, ih k (by omega) (by omega), e1, Tst.places]
  | and a b iha ihb =>
    intro k hk h10
    simp only [Tst.dep] at hk h10
    obtain ⟨k, rfl⟩ : ∃ k', k = k' + 1 := ⟨k - 1, by omega⟩
    rw [call_has, run_ok rfl]
    have hl := Tst.places_len a
    have hl2 := Tst.places_len b
    have h2 : 2 ^ a.dep ≤ 2 ^ 10 := Nat.pow_le_pow_right (by omega) (by omega)
    have h3 : 2 ^ b.dep ≤ 2 ^ 10 := Nat.pow_le_pow_right (by omega) (by omega)
    have e1 := b_addL (x := []) (y := a.places.map (.str : Str → D)) (by simp [LIM]; omega)
    have e2 := b_addL (x := a.places.map (.str : Str → D)) (y := b.places.map (.str : Str → D)) (by simp [LIM]; omega)
    simp [Q.m__law_places_of, startE, Tst.enc, hin, ofString_beq, ofString_inj, cut_from1, forN, iha k (by omega) (by omega), ihb k (by omega) (by omega), e1, e2, Tst.places]
  | or a b iha ihb =>
    intro k hk h10
    simp only [Tst.dep] at hk h10
    obtain ⟨k, rfl⟩ : ∃ k', k = k' + 1 := ⟨k - 1, by omega⟩
    rw [call_has, run_ok rfl]
    have hl := Tst.places_len a
    have hl2 := Tst.places_len b
    have h2 : 2 ^ a.dep ≤ 2 ^ 10 := Nat.pow_le_pow_right (by omega) (by omega)
    have h3 : 2 ^ b.dep ≤ 2 ^ 10 := Nat.pow_le_pow_right (by omega) (by omega)
    have e1 := b_addL (x := []) (y := a.places.map (.str : Str → D)) (by simp [LIM]; omega)
    have e2 := b_addL (x := a.places.map (.str : Str → D)) (y := b.places.map (.str : Str → D)) (by simp [LIM]; omega)
    simp [Q.m__law_places_of, startE, Tst.enc, hin, ofString_beq, ofString_inj, cut_from1, forN, iha k (by omega) (by omega), ihb k (by omega) (by omega), e1, e2, Tst.places]
theorem ch_test [Has T "_law_mix" Q.m__law_mix] [Has T "_law_test" Q.m__law_test] [Has T "_law_places_of" Q.m__law_places_of] (ns : List Str) (cell : Int) : ∃ o : Option Tst, (∀ t, o = some t → t.gen ∧ t.dep ≤ 2 ∧ ∀ n ∈ t.places, n ∈ ns) ∧
    ∀ k, 4 ≤ k → evSs (callN T wf nat k) wf (Q.m__law_choice.body.take 2) [some (.int cell), some (.list (ns.map .str)), none, none, none, none, none] = .nx [some (.int cell), some (.list (ns.map .str)), some (oT o), none, none, none, none] := by
  obtain ⟨u, gu, du, eu0⟩ := test_ok (T := T) (wf := wf) (nat := nat) 1 (cell + 1)
  have eu : ∀ k, 3 ≤ k → callN T wf nat k "_law_test" [.int (cell + 1), .int 2] = .ok u.enc := eu0
  have em : ∀ k, 4 ≤ k → ∀ {c p n : Int}, 0 < p → p < 1000000 → 0 < n → callN T wf nat k "_law_mix" [.int c, .int p, .int n] = .ok (.int (mix c p n)) := fun k hk _ _ _ h1 h2 h3 => mixT h1 h2 h3 (by omega)
  by_cases h : mix cell 9883 3 = 0
  · have lc : ∀ k, 4 ≤ k → evs (callN T wf nat k) [] [] = .ok [] := fun _ _ => by simp
    have hlc : ∀ (f : Str → R (Option D)), (∀ n, f n = .ok (if ns.contains n then none else some (.str n))) → lcM f u.places = .ok ((u.places.filter fun n => !ns.contains n).map .str) := fun f hf => by
      rw [lcM_congr fun n _ => hf n, lcM_ok, fm_filterN]; simp
    have key : ∀ k, 4 ≤ k → ev (callN T wf nat k) (.lc [3] (.name 3) .plain [.call "_law_places_of" [.var 2]] (.cmp .notin (.var 3) (.var 1)) (.var 3)) [some (.int cell), some (.list (ns.map .str)), some u.enc, none, none, none, none] = .ok (.list ((u.places.filter fun n => !ns.contains n).map .str)) := fun k hk => by
      have e1 := places_ok (T := T) (wf := wf) (nat := nat) u k (by omega) (by omega)
      simp [e1, lcN_M]
      rw [hlc]
      · simp
      · intro n
        rw [nin_of (in_lst (ss := ns) (s := n))]
        cases ns.contains n <;> simp
    by_cases hall : ∀ n ∈ u.places, n ∈ ns
    · refine ⟨some u, fun t e => by injection e with e; subst e; exact ⟨gu, du, hall⟩, fun k hk => ?_⟩
      have hf : (u.places.filter fun n => !ns.contains n) = [] := by
        rw [List.filter_eq_nil_iff]
        intro n hn
        simp [hall n hn]
      have k1 := key k hk
      rw [hf] at k1
      simp [-ev_lc, Q.m__law_choice, em k hk, h, eu k (by omega), k1, oT]
    · refine ⟨some (.not (.has "x" 1)), fun t e => by injection e with e; subst e; exact ⟨⟨.inl rfl, by omega, by omega⟩, by simp [Tst.dep], by simp [Tst.places]⟩, fun k hk => ?_⟩
      have k1 := key k hk
      have hne : ((u.places.filter fun n => !ns.contains n).map (.str : Str → D)).isEmpty = false := by
        cases e : (u.places.filter fun n => !ns.contains n) with
        | nil =>
          exfalso
          apply hall
          intro n hn
          have := List.filter_eq_nil_iff.mp e n hn
          simpa using this
        | cons y ys => rfl
      generalize ((u.places.filter fun n => !ns.contains n).map (.str : Str → D)) = l at k1 hne
      simp [-ev_lc, Q.m__law_choice, em k hk, h, eu k (by omega), k1, hne, oT, Tst.enc]
  · refine ⟨none, fun t e => (by cases e), fun k hk => ?_⟩
    have h' : (mix cell 9883 3 == 0) = false := by rw [beq_eq_false_iff_ne]; exact h
    simp [Q.m__law_choice, em k hk, h', oT]
theorem choice_ex [Has T "_law_mix" Q.m__law_mix] [Has T "_law_test" Q.m__law_test] [Has T "_law_places_of" Q.m__law_places_of] [Has T "_law_deeds" Q.m__law_deeds] [Has T "_law_choice" Q.m__law_choice] (ns : List Str) (hl : ns.length ≤ 100) (cell : Int) : ∃ c : Ch, DrawnCh ns c ∧ ∀ k, 5 ≤ k → callN T wf nat k "_law_choice" [.int cell, .list (ns.map .str)] = .ok c.enc := by
  obtain ⟨o, ho, e1⟩ := ch_test (T := T) (wf := wf) (nat := nat) ns cell
  obtain ⟨g, e2, hg⟩ := goal_at (ns := ns) (i := mix cell 9871 ((ns.length : Int) + 1)) (mix_pos (by omega)) (mix_lt (by omega))
  obtain ⟨l4, e3, hl4⟩ := pick4 (a := (.str "yes" : D)) (b := .str "no") (c := .str "why?") (d := .str "go on") (mix_pos (c := cell) (p := 9859) (n := 4) (by omega)) (mix_lt (by omega))
  have hs : ∃ w : Str, l4 = .str w ∧ (w = "yes" ∨ w = "no" ∨ w = "why?" ∨ w = "go on") := by rcases hl4 with rfl | rfl | rfl | rfl <;> exact ⟨_, rfl, by simp⟩
  obtain ⟨w, rfl, hw⟩ := hs
  refine ⟨⟨w, o, if mix cell 9857 3 = 0 then gDeeds (cell + 2) else [], g, decide (mix cell 9851 3 = 0)⟩, ⟨hw, ho, fun d hd => ?_, ?_, hg⟩, fun k hk => ?_⟩
  · simp only at hd
    split at hd
    · exact gDeeds_gen _ d hd
    · cases hd
  · simp only
    split
    · exact gDeeds_len _
    · simp
  · obtain ⟨k, rfl⟩ : ∃ k', k = k' + 1 := ⟨k - 1, by omega⟩
    have em : ∀ {c p n : Int}, 0 < p → p < 1000000 → 0 < n → callN T wf nat k "_law_mix" [.int c, .int p, .int n] = .ok (.int (mix c p n)) := fun h1 h2 h3 => mixT h1 h2 h3 (by omega)
    have em2 := em (c := cell) (p := 9871) (n := (ns.length : Int) + 1) (by omega) (by omega) (by omega)
    have ed := deeds_ok (T := T) (wf := wf) (nat := nat) (k := k) (c := cell + 2) (by omega)
    have a1 := b_addL (x := ns.map (.str : Str → D)) (y := [.none]) (by simp [LIM]; omega)
    rw [call_has, run_ok rfl]
    have hsplit : ∀ (a b : List MS) (r r1 : En), evSs (callN T wf nat k) wf a r = .nx r1 → evSs (callN T wf nat k) wf (a ++ b) r = evSs (callN T wf nat k) wf b r1 := fun a => by
      induction a with
      | nil => intro b r r1 h; simp at h; subst h; rfl
      | cons s a ih =>
        intro b r r1 h
        rw [eSs_c] at h
        rw [List.cons_append, eSs_c]
        cases e : evS (callN T wf nat k) wf s r with
        | nx r3 => rw [e, F.then_nx] at h; rw [F.then_nx]; exact ih b r3 r1 h
        | _ => rw [e] at h; cases h
    have hd : Q.m__law_choice.body = Q.m__law_choice.body.take 2 ++ Q.m__law_choice.body.drop 2 := (List.take_append_drop _ _).symm
    rw [hd, show startE Q.m__law_choice [.int cell, .list (ns.map .str)] = [some (.int cell), some (.list (ns.map .str)), none, none, none, none, none] from rfl, hsplit _ _ _ _ (e1 k (by omega))]
    by_cases h57 : mix cell 9857 3 = 0
    · simp [Q.m__law_choice, em, em2, a1, e2, e3, h57, ed, Ch.enc, Bool.beq_eq_decide_eq]
    · have h57' : (mix cell 9857 3 == 0) = false := by rw [beq_eq_false_iff_ne]; exact h57
      simp [Q.m__law_choice, em, em2, a1, e2, e3, h57, h57', ddD, Ch.enc, Bool.beq_eq_decide_eq]
end
end BT
set_option Elab.async false
set_option linter.all false
set_option maxRecDepth 100000
set_option maxHeartbeats 4000000
/-! BTV2: drawn talks; what is open by hand. -/
namespace BT
open PySem
def ABCD : List Str := ["a", "b", "c", "d"]
def lineF (i : Int) : Str := if i = 0 then "hello" else if i = 1 then "well" else "so be it"
theorem pick3L {i : Int} (h0 : 0 ≤ i) (h1 : i < 3) : atOf [(.str "hello" : D), .str "well", .str "so be it"] i = some (.str (lineF i)) := by
  rw [atOf_nat h0 (by simpa using h1)]
  have : i = 0 ∨ i = 1 ∨ i = 2 := by omega
  rcases this with rfl | rfl | rfl <;> rfl
theorem it_enL {l : List Str} : itemsF .enum [.list (l.map .str)] = .ok (l.zipIdx.map fun p => .tuple [.int (p.2 : Int), .str p.1]) := by
  show R.ok _ = _
  rw [List.zipIdx_map, List.map_map]; rfl
/-- the place of a drawn talk -/
def gPl (f : Int → Ch) (c : Int) (p : Str × Nat) : Pl := ⟨p.1, lineF (mix (c + 31 * (p.2 : Int)) 9829 3), (List.range (mix (c + 31 * (p.2 : Int)) 9833 4).toNat).map fun (j : Nat) => f (c + 31 * (p.2 : Int) + 11 * (j : Int) + 3)⟩
section
variable {T : Tab} {wf k : Nat} {nat : CallF} {L : List Str} {t : Talk} {s : Sd}
theorem talk_ex [Has T "_law_mix" Q.m__law_mix] [Has T "_law_test" Q.m__law_test] [Has T "_law_places_of" Q.m__law_places_of] [Has T "_law_deeds" Q.m__law_deeds] [Has T "_law_choice" Q.m__law_choice] [Has T "_law_talk" Q.m__law_talk] (most : Nat) (h1 : 1 ≤ most) (h4 : most ≤ 4) (c : Int) :
    ∃ t : Talk, Drawn most t ∧ ∀ k, 6 ≤ k → callN T wf nat k "_law_talk" [.int c, .int most] = .ok (tkD t) := by
  have m0 := mix_pos (c := c) (p := 9839) (n := (most : Int)) (by omega)
  have m1 := mix_lt (c := c) (p := 9839) (n := (most : Int)) (by omega)
  let m : Nat := (1 + mix c 9839 most).toNat
  have hm : 1 ≤ m ∧ m ≤ most := by show 1 ≤ (1 + mix c 9839 most).toNat ∧ (1 + mix c 9839 most).toNat ≤ most; omega
  let ns : List Str := ABCD.take m
  have hns : ns.length ≤ 4 := by show (ABCD.take m).length ≤ 4; rw [List.length_take]; show min m 4 ≤ 4; omega
  obtain ⟨f, hf⟩ := Classical.axiomOfChoice fun x : Int => choice_ex (T := T) (wf := wf) (nat := nat) ns (by omega) x
  have hnm : names (ns.zipIdx.map (gPl f c)) = ns := by
    unfold names
    rw [List.map_map]
    show ns.zipIdx.map (fun p => p.1) = ns
    exact List.zipIdx_map_fst 0 ns
  refine ⟨ns.zipIdx.map (gPl f c), ⟨⟨m, hm.1, hm.2, by omega, hnm⟩, fun p hp => ?_, fun p hp => ?_, fun p hp ch hch => ?_⟩, fun k hk => ?_⟩
  · obtain ⟨q, _, rfl⟩ := List.mem_map.mp hp
    simp only [gPl, lineF]
    split
    · simp
    · split <;> simp
  · obtain ⟨q, _, rfl⟩ := List.mem_map.mp hp
    have := mix_lt (c := c + 31 * (q.2 : Int)) (p := 9833) (n := 4) (by omega)
    simp only [gPl, List.length_map, List.length_range]
    omega
  · obtain ⟨q, _, rfl⟩ := List.mem_map.mp hp
    obtain ⟨j, _, rfl⟩ := List.mem_map.mp hch
    rw [hnm]
    exact (hf _).1
  · obtain ⟨k, rfl⟩ : ∃ k', k = k' + 1 := ⟨k - 1, by omega⟩
    have em : ∀ {c p n : Int}, 0 < p → p < 1000000 → 0 < n → callN T wf nat k "_law_mix" [.int c, .int p, .int n] = .ok (.int (mix c p n)) := fun h1 h2 h3 => mixT h1 h2 h3 (by omega)
    have em2 := em (c := c) (p := 9839) (n := (most : Int)) (by omega) (by omega) (by omega)
    have ec : ∀ x : Int, callN T wf nat k "_law_choice" [.int x, .list (ns.map .str)] = .ok (f x).enc := fun x => (hf x).2 k (by omega)
    have eR : ∀ x : Int, itemsF .range1 [.int (mix x 9833 4)] = .ok ((List.range (mix x 9833 4).toNat).map fun (j : Nat) => .int (j : Int)) := fun x => by
      have a := mix_lt (c := x) (p := 9833) (n := 4) (by omega)
      have b := mix_pos (c := x) (p := 9833) (n := 4) (by omega)
      exact it_range1 (by omega)
    have m11 : ∀ i : Int, binF .mul (.int 11) (.int i) = .ok (.int (11 * i)) := fun i => mulc (by omega)
    have pl : ∀ x : Int, atOf [(.str "hello" : D), .str "well", .str "so be it"] (mix x 9829 3) = some (.str (lineF (mix x 9829 3))) := fun x => pick3L (mix_pos (by omega)) (mix_lt (by omega))
    rw [call_has, run_ok rfl]
    obtain ⟨r', e1, y4, y5, y6, y7, y8, rfl⟩ := forN_fold (tg := .tup [4, 5]) (body := fun r1 => evSs (callN T wf nat k) wf (fb (Q.m__law_talk.body.getD 2 .pass)) r1) (fun p : Str × Nat => .tuple [.int (p.2 : Int), .str p.1])
      (fun (acc : List Pl) r => ∃ y4 y5 y6 y7 y8, r = [some (.int c), some (.int most), some (.list (ns.map .str)), some (.list (acc.map Pl.enc)), y4, y5, y6, y7, y8]) (fun acc p => acc ++ [gPl f c p]) ns.zipIdx []
      [some (.int c), some (.int most), some (.list (ns.map .str)), some (.list []), none, none, none, none, none] ⟨_, _, _, _, _, rfl⟩ (fun pre p post r e hr => by
        obtain ⟨y4, y5, y6, y7, y8, rfl⟩ := hr
        have hln : (pre.foldl (fun acc p => acc ++ [gPl f c p]) ([] : List Pl)).length < LIM := by
          rw [foldl_snoc]
          have : ns.zipIdx.length = (pre ++ p :: post).length := by rw [e]
          simp at this ⊢
          unfold LIM; omega
        generalize pre.foldl (fun acc p => acc ++ [gPl f c p]) ([] : List Pl) = acc at hln
        refine ⟨_, _, asg2, .inl ?_, some (.int (p.2 : Int)), some (.str p.1), some (.int (c + 31 * (p.2 : Int))), some (.list ((gPl f c p).chs.map Ch.enc)), y8, rfl⟩
        have hen : (gPl f c p).enc = .tuple [.str p.1, .str (lineF (mix (c + 31 * (p.2 : Int)) 9829 3)), .tuple ((gPl f c p).chs.map Ch.enc)] := rfl
        have hch : (gPl f c p).chs.map Ch.enc = (List.range (mix (c + 31 * (p.2 : Int)) 9833 4).toNat).map fun (j : Nat) => (f (c + 31 * (p.2 : Int) + 11 * (j : Int) + 3)).enc := by
          simp only [gPl, List.map_map]; rfl
        rw [List.map_append, List.map_singleton, hen, hch]
        simp [Q.m__law_talk, fb, mul31, em, eR, lcN_M, m11, ec, lcM_all, eS_app, hln, pl])
    rw [foldl_snoc] at e1
    have hcut : slcF (.list [.str "a", .str "b", .str "c", .str "d"]) none (some (1 + mix c 9839 most)) = .ok (.list (ns.map .str)) := by
      show R.ok (PyData.list (cutL (ABCD.map .str) none (some (1 + mix c 9839 most)))) = _
      rw [cut_to (by omega), ← List.map_take]
    have hb : Q.m__law_talk.body = [.set 2 (.slc (.lst [.str "a", .str "b", .str "c", .str "d"]) .non (.bin .add (.int 1) (.call "_law_mix" [.var 0, .int 9839, .var 1]))), .setL 3 (.lst []), .for_ (.tup [4, 5]) .enum [.var 2] (fb (Q.m__law_talk.body.getD 2 .pass)), .ret (.blt .tuple [.lin 3])] := rfl
    have hst : startE Q.m__law_talk [.int c, .int most] = [some (.int c), some (.int most), none, none, none, none, none, none, none] := rfl
    rw [hb, hst]
    generalize fb (Q.m__law_talk.body.getD 2 .pass) = B at e1 ⊢
    have hi := it_enL (l := ns)
    generalize ns = ns at *
    simp [em2, hcut, hi, e1]
    unfold tkD
    rw [List.map_map]
theorem lchoices_ok [Has T "_law_choices" Q.m__law_choices] (hk : 1 ≤ k) : callN T wf nat k "_law_choices" [tkD t, s.enc] = .ok (chD (chsAt t s.pl)) := by
  obtain ⟨k, rfl⟩ : ∃ k', k = k' + 1 := ⟨k - 1, by omega⟩
  rw [call_has, run_ok rfl]
  have hb : Q.m__law_choices.body = [.for_ (.tup [2, 3, 4]) .plain [.var 0] (fb (Q.m__law_choices.body.getD 0 .pass)), .ret (.tup [])] := rfl
  have hst : startE Q.m__law_choices [tkD t, s.enc] = [some (tkD t), some s.enc, none, none, none] := rfl
  have a1 : ∀ (p : Pl) r, asg (.tup [2, 3, 4]) p.enc r = .ok (put (put (put r 2 (.str p.name)) 3 (.str p.line)) 4 (chD p.chs)) := fun p r => rfl
  rcases forN_find (tg := .tup [2, 3, 4]) (body := fun r1 => evSs (callN T wf nat k) wf (fb (Q.m__law_choices.body.getD 0 .pass)) r1) Pl.enc (fun r => ∃ y2 y3 y4, r = [some (tkD t), some s.enc, y2, y3, y4]) (fun p => decide (some p.name = s.pl)) (fun p => chD p.chs) t
    [some (tkD t), some s.enc, none, none, none] ⟨_, _, _, rfl⟩ (fun p r hp hr => by
      obtain ⟨y2, y3, y4, rfl⟩ := hr
      refine ⟨_, a1 p _, fun e => ?_, fun e => ?_⟩
      · have e : some p.name = s.pl := by simpa using e
        simp [Q.m__law_choices, fb, sd_at0, ← e]
      · have e : ¬ some p.name = s.pl := by simpa using e
        have hne : cmpF .eq (.str p.name) (oS s.pl) = .ok false := by
          cases hpl : s.pl with
          | none => rfl
          | some n =>
            have : p.name ≠ n := fun z => e (by rw [z, hpl])
            rw [oS_s, c_eqS]
            congr 1
            rw [beq_eq_false_iff_ne]; exact this
        exact ⟨[some (tkD t), some s.enc, some (.str p.name), some (.str p.line), some (chD p.chs)], by simp [Q.m__law_choices, fb, sd_at0, hne], _, _, _, rfl⟩) with ⟨p, e1, e2⟩ | ⟨e1, r', e2, y2, y3, y4, rfl⟩
  · rw [hb, hst]
    generalize fb (Q.m__law_choices.body.getD 0 .pass) = B at e2 ⊢
    have hpl : some p.name = s.pl := by simpa using List.find?_some e1
    have hc : chsAt t s.pl = p.chs := by
      rw [← hpl]
      show ((plOf t p.name).map Pl.chs).getD [] = _
      have : plOf t p.name = some p := by
        unfold plOf
        rw [← e1]
        congr 1
        funext q
        rw [← hpl]
        simp
      rw [this]; rfl
    simp [it_tk, e2, hc]
  · rw [hb, hst]
    generalize fb (Q.m__law_choices.body.getD 0 .pass) = B at e2 ⊢
    have hc : chsAt t s.pl = [] := by
      cases hpl : s.pl with
      | none => rfl
      | some n =>
        show ((plOf t n).map Pl.chs).getD [] = _
        have : plOf t n = none := by
          unfold plOf
          rw [← e1]
          congr 1
          funext q
          rw [hpl]
          simp
        rw [this]; rfl
    simp [it_tk, e2, hc, chD]
theorem lbegun_ok [Has T "_law_begun" Q.m__law_begun] (h : t ≠ []) (hk : 1 ≤ k) : callN T wf nat k "_law_begun" [tkD t] = .ok (beginM t).enc := by
  obtain ⟨k, rfl⟩ : ∃ k', k = k' + 1 := ⟨k - 1, by omega⟩
  rw [call_has, run_ok rfl]
  cases t with
  | nil => exact absurd rfl h
  | cons p t =>
    have e : idxF (tkD (p :: t)) (.int 0) = .ok p.enc := by show R.ofO (atOf (p.enc :: _) 0) = _; rw [at0]; rfl
    simp [Q.m__law_begun, startE, e, pl_at0, beginM, Sd.enc, bkD, bnD]
theorem filter_snoc {α β : Type} {p : α → Bool} {g : α → β} {xs : List α} : ∀ {acc : List β}, xs.foldl (fun acc x => if p x then acc ++ [g x] else acc) acc = acc ++ (xs.filter p).map g := by
  induction xs with
  | nil => intro acc; simp
  | cons x xs ih =>
    intro acc
    rw [List.foldl_cons, ih, List.filter_cons]
    cases p x <;> simp
theorem lopen_ok [Has T "_law_holds" Q.m__law_holds] [Has T "_law_choices" Q.m__law_choices] [Has T "_law_open" Q.m__law_open] (TK : TalkOk L t) (h : SdOk L t s) (hk : 5 ≤ k) : callN T wf nat k "_law_open" [tkD t, s.enc] = .ok (nsD (openAt t s)) := by
  obtain ⟨k, rfl⟩ : ∃ k', k = k' + 1 := ⟨k - 1, by omega⟩
  rw [call_has, run_ok rfl]
  have hb : Q.m__law_open.body = [.setL 2 (.lst []), .for_ (.nest 3 [4, 5, 6, 7, 8]) .enum [.call "_law_choices" [.var 0, .var 1]] (fb (Q.m__law_open.body.getD 1 .pass)), .ret (.blt .tuple [.lin 2])] := rfl
  have hst : startE Q.m__law_open [tkD t, s.enc] = [some (tkD t), some s.enc, none, none, none, none, none, none, none] := rfl
  have e0 := lchoices_ok (T := T) (wf := wf) (nat := nat) (t := t) (s := s) (k := k) (by omega)
  have hn : ∃ n : Str, (s.pl = some n ∨ chsAt t s.pl = []) ∧ openAt t s = ((chsAt t s.pl).zipIdx.filter fun p => isOpen s n p.2 p.1).map Prod.snd := by
    cases hpl : s.pl with
    | none => exact ⟨"", .inr rfl, by unfold openAt; rw [hpl]; rfl⟩
    | some n => exact ⟨n, .inl rfl, by unfold openAt; rw [hpl]⟩
  obtain ⟨n, hn1, hn2⟩ := hn
  obtain ⟨r', e1, y3, y4, y5, y6, y7, y8, rfl⟩ := forN_fold (tg := .nest 3 [4, 5, 6, 7, 8]) (body := fun r1 => evSs (callN T wf nat k) wf (fb (Q.m__law_open.body.getD 1 .pass)) r1) (fun p : Ch × Nat => .tuple [.int (p.2 : Int), p.1.enc])
    (fun (acc : List Nat) r => ∃ y3 y4 y5 y6 y7 y8, r = [some (tkD t), some s.enc, some (.list (acc.map fun (j : Nat) => .int (j : Int))), y3, y4, y5, y6, y7, y8]) (fun acc p => if isOpen s n p.2 p.1 then acc ++ [p.2] else acc) (chsAt t s.pl).zipIdx []
    [some (tkD t), some s.enc, some (.list []), none, none, none, none, none, none] ⟨_, _, _, _, _, _, rfl⟩ (fun pre p post r e hr => by
      obtain ⟨y3, y4, y5, y6, y7, y8, rfl⟩ := hr
      have hpm : p ∈ (chsAt t s.pl).zipIdx := by rw [e]; simp
      have hm : p.1 ∈ chsAt t s.pl := by
        obtain ⟨c, j⟩ := p
        exact List.mem_of_getElem? (List.mem_zipIdx_iff_getElem?.mp hpm)
      have hpl : s.pl = some n := by
        rcases hn1 with z | z
        · exact z
        · rw [z] at hm; cases hm
      rw [hpl] at hm
      obtain ⟨q, hq, hqt, _, hcq⟩ := chsAt_mem hm
      have C := (TK.chs q hqt).2 p.1 hcq
      have hln : (pre.foldl (fun acc p => if isOpen s n p.2 p.1 then acc ++ [p.2] else acc) ([] : List Nat)).length < LIM := by
        rw [filter_snoc (g := Prod.snd)]
        have h1 : (chsAt t s.pl).zipIdx.length = (pre ++ p :: post).length := by rw [e]
        have h2 := List.length_filter_le (fun p : Ch × Nat => isOpen s n p.2 p.1) pre
        have h3 : (chsAt t s.pl).length ≤ 20 := by
          rw [hpl]
          show (((plOf t n).map Pl.chs).getD []).length ≤ 20
          rw [hq]
          exact (TK.chs q hqt).1
        simp at h1 ⊢
        unfold LIM; omega
      generalize pre.foldl (fun acc p => if isOpen s n p.2 p.1 then acc ++ [p.2] else acc) ([] : List Nat) = acc at hln
      have a1 : ∀ r, asg (.nest 3 [4, 5, 6, 7, 8]) (.tuple [.int (p.2 : Int), p.1.enc]) r = .ok (put (put (put (put (put (put r 3 (.int (p.2 : Int))) 4 (.str p.1.line)) 5 (oT p.1.test)) 6 (ddD p.1.deeds)) 7 (oS p.1.goal)) 8 (.bool p.1.once)) := fun r => rfl
      have b1 : ∀ r, ev (callN T wf nat k) (.or (.cmp .is_ (.var 5) .non) (.call "_law_holds" [.var 5, .idx (.var 1) (.int 1), .idx (.var 1) (.int 2)])) [some (tkD t), some s.enc, r, some (.int (p.2 : Int)), some (.str p.1.line), some (oT p.1.test), some (ddD p.1.deeds), some (oS p.1.goal), some (.bool p.1.once)] = .ok (.bool (tstAt s p.1.test)) := fun r => by
        cases ht : p.1.test with
        | none => simp [oT, tstAt]
        | some u =>
          have e4 := lholds_ok (T := T) (wf := wf) (nat := nat) (ss := s.been) h.good.keys u k (C.tst u ht).1 (by have := (C.tst u ht).2; omega)
          have e5 : isNon u.enc = false := by cases u <;> rfl
          simp [oT, e5, tstAt, sd_at1, sd_at2, e4]
      have b2 : ∀ r, ev (callN T wf nat k) (.or (.nt (.var 8)) (.cmp .notin (.tup [.idx (.var 1) (.int 0), .var 3]) (.idx (.var 1) (.int 3)))) [some (tkD t), some s.enc, r, some (.int (p.2 : Int)), some (.str p.1.line), some (oT p.1.test), some (ddD p.1.deeds), some (oS p.1.goal), some (.bool p.1.once)] = .ok (.bool (!(p.1.once && s.taken.contains (n, (p.2 : Int))))) := fun r => by
        have e3 := nin_of (in_bk (b := s.taken) (p := (n, (p.2 : Int))))
        simp only [pD] at e3
        cases ho : p.1.once with
        | false => simp
        | true => simp [sd_at0, sd_at3, hpl, e3]
      have hbody : fb (Q.m__law_open.body.getD 1 .pass) = [.iff (.and (.or (.cmp .is_ (.var 5) .non) (.call "_law_holds" [.var 5, .idx (.var 1) (.int 1), .idx (.var 1) (.int 2)])) (.or (.nt (.var 8)) (.cmp .notin (.tup [.idx (.var 1) (.int 0), .var 3]) (.idx (.var 1) (.int 3))))) [.app 2 (.var 3)] []] := rfl
      rw [hbody]
      generalize (M.or (.cmp .is_ (.var 5) .non) (.call "_law_holds" [.var 5, .idx (.var 1) (.int 1), .idx (.var 1) (.int 2)])) = E1 at b1 ⊢
      generalize (M.or (.nt (.var 8)) (.cmp .notin (.tup [.idx (.var 1) (.int 0), .var 3]) (.idx (.var 1) (.int 3)))) = E2 at b2 ⊢
      have hio : isOpen s n p.2 p.1 = (!(p.1.once && s.taken.contains (n, (p.2 : Int))) && tstAt s p.1.test) := rfl
      rw [hio]
      refine ⟨_, _, a1 _, .inl ?_, some (.int (p.2 : Int)), some (.str p.1.line), some (oT p.1.test), some (ddD p.1.deeds), some (oS p.1.goal), some (.bool p.1.once), rfl⟩
      generalize tstAt s p.1.test = x1 at b1 ⊢
      generalize (!(p.1.once && s.taken.contains (n, (p.2 : Int)))) = x2 at b2 ⊢
      cases x1 <;> cases x2 <;> simp [b1, b2, eS_app, hln])
  rw [filter_snoc (g := Prod.snd), List.nil_append, ← hn2] at e1
  rw [hb, hst]
  generalize fb (Q.m__law_open.body.getD 1 .pass) = B at e1 ⊢
  have hi := it_en (cs := chsAt t s.pl)
  simp [e0, hi, e1]
  rfl
end
end BT
set_option Elab.async false
set_option linter.all false
/-! BTDf2: shared functions, compiled (printed by shared.py) -/
namespace BT.Q
open BT PySem
def m_led : MFun := ⟨2, 4, [], [
  .set 2 (.call "begun" [(.var 0)]),
  .for_ (.name 3) .plain [(.var 1)] [
    .set 2 (.call "after" [(.var 0), (.var 2), (.var 3)])],
  .ret (.var 2)]⟩
end BT.Q
set_option Elab.async false
set_option linter.all false
set_option maxRecDepth 100000
set_option maxHeartbeats 4000000
/-! BTW: more that laws have in common. -/
namespace BT
open PySem
theorem shal_bn {ss : List Str} {n : Nat} : shal (n + 1) (bnD ss) = true := by
  show shal (n + 1) (.tuple _) = true
  simp only [shal]
  refine shalL_of fun x hx => ?_
  obtain ⟨p, _, rfl⟩ := List.mem_map.mp hx
  simp [shal]
theorem nolist_bn {ss : List Str} : nolist (bnD ss) = true := by
  show nolist (.tuple _) = true
  simp only [nolist]
  refine nolistL_all fun x hx => ?_
  obtain ⟨p, _, rfl⟩ := List.mem_map.mp hx
  simp [nolist]
theorem nb_bn {ss : List Str} : nb (bnD ss) = true := by
  show nb (.tuple _) = true
  simp only [nb]
  refine nbL_of fun x hx => ?_
  obtain ⟨p, _, rfl⟩ := List.mem_map.mp hx
  simp [nb]
theorem shal_ns {ss : List Nat} {n : Nat} : shal (n + 1) (nsD ss) = true := by
  show shal (n + 1) (.tuple _) = true
  simp only [shal]
  refine shalL_of fun x hx => ?_
  obtain ⟨p, _, rfl⟩ := List.mem_map.mp hx
  simp [shal]
theorem nolist_ns {ss : List Nat} : nolist (nsD ss) = true := by
  show nolist (.tuple _) = true
  simp only [nolist]
  refine nolistL_all fun x hx => ?_
  obtain ⟨p, _, rfl⟩ := List.mem_map.mp hx
  simp [nolist]
theorem nb_ns {ss : List Nat} : nb (nsD ss) = true := by
  show nb (.tuple _) = true
  simp only [nb]
  refine nbL_of fun x hx => ?_
  obtain ⟨p, _, rfl⟩ := List.mem_map.mp hx
  simp [nb]
theorem shal_sd {s : Sd} {n : Nat} : shal (n + 3) s.enc = true := by
  have h1 : shal (n + 2) (bkD s.bk) = true := shal_bk
  have h2 : shal (n + 2) (bkD s.taken) = true := shal_bk
  have h3 : shal (n + 1 + 1) (bnD s.been) = true := shal_bn
  have h4 : shal (n + 2) (oS s.pl) = true := by cases s.pl <;> simp [shal]
  show shal (n + 2 + 1) (.tuple _) = true
  simp [shal, shalL, h1, h2, h3, h4]
theorem nolist_sd {s : Sd} : nolist s.enc = true := by
  have h4 : nolist (oS s.pl) = true := by cases s.pl <;> simp [nolist]
  show nolist (.tuple _) = true
  simp [nolist, nolistL, nolist_bk, nolist_bn, h4]
theorem nb_sd {s : Sd} : nb s.enc = true := by
  have h4 : nb (oS s.pl) = true := by cases s.pl <;> simp [nb]
  show nb (.tuple _) = true
  simp [nb, nbL, nb_bk, nb_bn, h4]
theorem shal_sh {o : Option (Str × List Str)} {n : Nat} : shal (n + 2) (shD o) = true := by
  cases o with
  | none => simp [shD, shal]
  | some p =>
    have h3 : shal (n + 1) (bnD p.2) = true := shal_bn
    show shal (n + 1 + 1) (.tuple _) = true
    simp [shal, shalL, h3]
theorem nolist_sh {o : Option (Str × List Str)} : nolist (shD o) = true := by
  cases o with
  | none => simp [shD, nolist]
  | some p =>
    show nolist (.tuple _) = true
    simp [nolist, nolistL, nolist_bn]
theorem nb_sh {o : Option (Str × List Str)} : nb (shD o) = true := by
  cases o with
  | none => simp [shD, nb]
  | some p =>
    show nb (.tuple _) = true
    simp [nb, nbL, nb_bn]
theorem at_ns {ks : List Nat} {i : Int} (h0 : 0 ≤ i) (h1 : i < ks.length) : ∃ k, k ∈ ks ∧ idxF (nsD ks) (.int i) = .ok (.int (k : Int)) := by
  have hl : i.toNat < ks.length := by omega
  refine ⟨ks[i.toNat], List.getElem_mem hl, ?_⟩
  show R.ofO (atOf (ks.map fun (k : Nat) => (.int (k : Int) : D)) i) = _
  rw [atOf_nat h0 (by simpa using h1)]
  simp [hl]
theorem ns_len {ks : List Nat} : bltF .len [nsD ks] = .ok (.int (ks.length : Int)) := by
  show R.ok (PyData.int ((ks.map _).length : Int)) = _
  rw [List.length_map]
theorem tst_ns {ks : List Nat} : tst (nsD ks) = .ok (!ks.isEmpty) := by
  show R.ok (!(ks.map _).isEmpty) = _
  rw [List.isEmpty_map]
theorem ns_nil : (.tuple [] : D) = nsD [] := rfl
theorem ns_snoc {ks : List Nat} {k : Nat} (h : ks.length < 1000000) : binF .add (nsD ks) (.tuple [.int (k : Int)]) = .ok (nsD (ks ++ [k])) := by
  show binF .add (.tuple _) (.tuple _) = _
  rw [b_addT (by simp [LIM]; omega)]
  simp [nsD]
theorem ssplit {C : CallF} {wf : Nat} : ∀ (a b : List MS) (r r1 : En), evSs C wf a r = .nx r1 → evSs C wf (a ++ b) r = evSs C wf b r1 := fun a => by
  induction a with
  | nil => intro b r r1 h; simp at h; subst h; rfl
  | cons s a ih =>
    intro b r r1 h
    rw [eSs_c] at h
    rw [List.cons_append, eSs_c]
    cases e : evS C wf s r with
    | nx r3 => rw [e, F.then_nx] at h; rw [F.then_nx]; exact ih b r3 r1 h
    | _ => rw [e] at h; cases h
/-- a list of statements, cut -/
theorem scut {C : CallF} {wf : Nat} {ss : List MS} {r r1 : En} (n : Nat) (h : evSs C wf (ss.take n) r = .nx r1) : evSs C wf ss r = evSs C wf (ss.drop n) r1 := by
  conv => lhs; rw [← List.take_append_drop n ss]
  exact ssplit _ _ _ _ h
/-- a loop that may be left -/
theorem forN_brk {tg : Tg} {body : En → F} (P Q : En → Prop) : ∀ {xs : List D} {r : En}, P r → (∀ r x, x ∈ xs → P r → ∃ r1 r2, asg tg x r = .ok r1 ∧ ((body r1 = .nx r2 ∧ P r2) ∨ (body r1 = .bk r2 ∧ Q r2))) → ∃ r', forN tg body xs r = .nx r' ∧ (P r' ∨ Q r')
  | [], r, h, _ => ⟨r, rfl, .inl h⟩
  | x :: xs, r, h, hb => by
    obtain ⟨r1, r2, e1, h2⟩ := hb r x (.head _) h
    rcases h2 with ⟨e2, h2⟩ | ⟨e2, h2⟩
    · obtain ⟨r', e3, h3⟩ := forN_brk P Q (xs := xs) h2 fun r y hy hp => hb r y (.tail _ hy) hp
      refine ⟨r', ?_, h3⟩
      unfold forN
      rw [e1, R.toF_ok, e2]
      exact e3
    · refine ⟨r2, ?_, .inr h2⟩
      unfold forN
      rw [e1, R.toF_ok, e2]
      rfl
theorem for_brk {C : CallF} {wf : Nat} {tg : Tg} {ik : ItK} {its : List M} {body : List MS} {xs : List D} {r : En} (P Q : En → Prop) (h0 : P r) (hi : (evs C its r).bind (itemsF ik) = .ok xs)
    (step : ∀ r x, x ∈ xs → P r → ∃ r1 r2, asg tg x r = .ok r1 ∧ ((evSs C wf body r1 = .nx r2 ∧ P r2) ∨ (evSs C wf body r1 = .bk r2 ∧ Q r2))) :
    ∃ r', evS C wf (.for_ tg ik its body) r = .nx r' ∧ (P r' ∨ Q r') := by
  obtain ⟨r', e, h⟩ := forN_brk (tg := tg) (body := fun r1 => evSs C wf body r1) P Q h0 step
  refine ⟨r', ?_, h⟩
  simp only [evS]
  rw [← toF_bind, hi]
  exact e
/-- .. by the number of the turn -/
theorem forN_brkI {tg : Tg} {body : En → F} (P : Nat → En → Prop) (Q : En → Prop) : ∀ {xs : List D} {r : En} {n : Nat}, P n r → (∀ i r x, xs[i]? = some x → P (n + i) r → ∃ r1 r2, asg tg x r = .ok r1 ∧ ((body r1 = .nx r2 ∧ P (n + i + 1) r2) ∨ (body r1 = .bk r2 ∧ Q r2))) → ∃ r', forN tg body xs r = .nx r' ∧ (P (n + xs.length) r' ∨ Q r')
  | [], r, n, h, _ => ⟨r, rfl, .inl h⟩
  | x :: xs, r, n, h, hb => by
    obtain ⟨r1, r2, e1, h2⟩ := hb 0 r x rfl h
    rcases h2 with ⟨e2, h2⟩ | ⟨e2, h2⟩
    · obtain ⟨r', e3, h3⟩ := forN_brkI P Q (xs := xs) (n := n + 1) h2 fun i r y hy hp => by
        have e : n + 1 + i = n + (i + 1) := by omega
        rw [e] at hp ⊢
        exact hb (i + 1) r y (by simpa using hy) hp
      refine ⟨r', ?_, ?_⟩
      · unfold forN
        rw [e1, R.toF_ok, e2]
        exact e3
      · have e : n + (x :: xs).length = n + 1 + xs.length := by simp; omega
        rw [e]; exact h3
    · refine ⟨r2, ?_, .inr h2⟩
      unfold forN
      rw [e1, R.toF_ok, e2]
      rfl
/-- for .. in range(m), that may be left -/
theorem range_brk {C : CallF} {wf i : Nat} {m : Nat} {body : List MS} {r : En} (P : Nat → En → Prop) (Q : En → Prop) (hm : m ≤ 1000) (h0 : P 0 r)
    (step : ∀ j r, j < m → P j r → ∃ r2, (evSs C wf body (put r i (.int (j : Int))) = .nx r2 ∧ P (j + 1) r2) ∨ (evSs C wf body (put r i (.int (j : Int))) = .bk r2 ∧ Q r2)) :
    ∃ r', evS C wf (.for_ (.name i) .range1 [.int (m : Int)] body) r = .nx r' ∧ (P m r' ∨ Q r') := by
  obtain ⟨r', e, h⟩ := forN_brkI (tg := .name i) (body := fun r1 => evSs C wf body r1) P Q (xs := (List.range m).map fun (k : Nat) => .int (k : Int)) (n := 0) h0 (fun j r x hx hp => by
    rw [List.getElem?_map] at hx
    have hj : j < m := by
      cases hh : (List.range m)[j]? with
      | none => rw [hh] at hx; cases hx
      | some z => simpa using (List.getElem?_eq_some_iff.mp hh).1
    rw [List.getElem?_range hj] at hx
    injection hx with hx; subst hx
    obtain ⟨r2, h2⟩ := step j r hj (by simpa using hp)
    exact ⟨_, r2, rfl, by simpa using h2⟩)
  refine ⟨r', ?_, by simpa using h⟩
  simp only [evS, evs, ev, R.bind_ok, R.toF_ok]
  rw [it_range1 (by omega), R.toF_ok]
  simpa using e
/-- choices, one behind the other -/
def goes (t : Talk) : Sd → List Nat → Option Sd
  | s, [] => some s
  | s, k :: ks => if k ∈ openAt t s then goes t (afterM t s k) ks else none
theorem goes_snoc {t : Talk} : ∀ {ks : List Nat} {s s2 : Sd} {k : Nat}, goes t s ks = some s2 → k ∈ openAt t s2 → goes t s (ks ++ [k]) = some (afterM t s2 k)
  | [], s, s2, k, h, hk => by
    injection h with h; subst h
    show (if k ∈ openAt t s then goes t (afterM t s k) [] else none) = _
    rw [if_pos hk]; rfl
  | j :: ks, s, s2, k, h, hk => by
    have h : (if j ∈ openAt t s then goes t (afterM t s j) ks else none) = some s2 := h
    show (if j ∈ openAt t s then goes t (afterM t s j) (ks ++ [k]) else none) = _
    split at h
    · rename_i hj
      rw [if_pos hj]
      exact goes_snoc h hk
    · cases h
theorem goes_ok {L : List Str} {t : Talk} (TK : TalkOk L t) : ∀ {ks : List Nat} {s s2 : Sd}, SdOk L t s → goes t s ks = some s2 → SdOk L t s2
  | [], s, s2, hs, h => by injection h with h; subst h; exact hs
  | j :: ks, s, s2, hs, h => by
    have h : (if j ∈ openAt t s then goes t (afterM t s j) ks else none) = some s2 := h
    split at h
    · rename_i hj
      exact goes_ok TK (after_ok TK hs hj) h
    · cases h
section
variable {T : Tab} {wf k : Nat} {nat : CallF} {L : List Str} {t : Talk} {s : Sd}
theorem led_ok [Has T "holds" Q.m_holds] [Has T "is_open" Q.m_is_open] [Has T "place_of" Q.m_place_of] [Has T "choices_at" Q.m_choices_at] [Has T "open_at" Q.m_open_at] [Has T "done" Q.m_done] [Has T "after" Q.m_after] [Has T "begun" Q.m_begun] [Has T "led" Q.m_led] (TK : TalkOk L t) {ks : List Nat} (h : goes t (beginM t) ks = some s) (hk : 8 ≤ k) : callN T wf nat k "led" [tkD t, nsD ks] = .ok s.enc := by
  obtain ⟨k, rfl⟩ : ∃ k', k = k' + 1 := ⟨k - 1, by omega⟩
  rw [call_has, run_ok rfl]
  have e0 := begun_ok (T := T) (wf := wf) (nat := nat) (k := k) TK.ne (by omega)
  have key : ∀ (ks0 ks : List Nat) (s0 : Sd) (y : Option D), SdOk L t s0 → goes t s0 ks = some s → ∃ z, forN (.name 3) (fun r1 => evSs (callN T wf nat k) wf (fb (Q.m_led.body.getD 1 .pass)) r1) (ks.map fun (j : Nat) => .int (j : Int)) [some (tkD t), some (nsD ks0), some s0.enc, y] = .nx [some (tkD t), some (nsD ks0), some s.enc, z] := fun ks0 ks => by
    induction ks with
    | nil => intro s0 y _ h; injection h with h; subst h; exact ⟨y, rfl⟩
    | cons j ks ih =>
      intro s0 y hs h
      have h : (if j ∈ openAt t s0 then goes t (afterM t s0 j) ks else none) = some s := h
      split at h
      · rename_i hj
        obtain ⟨z, e⟩ := ih (afterM t s0 j) (some (.int j)) (after_ok TK hs hj) h
        refine ⟨z, ?_⟩
        have ea := after_runs (T := T) (wf := wf) (nat := nat) (k := k) TK hs hj (by omega)
        rw [List.map_cons]
        unfold forN
        simp only [asg_name, R.toF_ok, put_s, put_z]
        have e5 : evSs (callN T wf nat k) wf (fb (Q.m_led.body.getD 1 .pass)) [some (tkD t), some (nsD ks0), some s0.enc, some (.int (j : Int))] = .nx [some (tkD t), some (nsD ks0), some (afterM t s0 j).enc, some (.int (j : Int))] := by
          simp [Q.m_led, fb, ea]
        rw [e5]
        exact e
      · cases h
  obtain ⟨z, e⟩ := key ks ks (beginM t) none (begin_ok TK) h
  have hb : Q.m_led.body = [.set 2 (.call "begun" [.var 0]), .for_ (.name 3) .plain [.var 1] (fb (Q.m_led.body.getD 1 .pass)), .ret (.var 2)] := rfl
  rw [hb, show startE Q.m_led [tkD t, nsD ks] = [some (tkD t), some (nsD ks), none, none] from rfl]
  generalize fb (Q.m_led.body.getD 1 .pass) = B at e ⊢
  have hi := it_ns (ks := ks)
  simp [e0, hi, e]
end
end BT
set_option Elab.async false
set_option linter.all false
set_option maxRecDepth 100000
set_option maxHeartbeats 4000000
/-! BTW2: what is refused. -/
namespace BT
open PySem
section
variable {T : Tab} {wf k : Nat} {nat : CallF} {L : List Str} {t : Talk} {s : Sd}
variable [Has T "holds" Q.m_holds] [Has T "is_open" Q.m_is_open] [Has T "place_of" Q.m_place_of] [Has T "choices_at" Q.m_choices_at] [Has T "open_at" Q.m_open_at] [Has T "done" Q.m_done] [Has T "after" Q.m_after]
theorem after_exc (TK : TalkOk L t) (h : SdOk L t s) {j : Int} (hj : (decide (0 ≤ j) && (openAt t s).contains j.toNat) = false) (hk : 7 ≤ k) : callN T wf nat k "after" [tkD t, s.enc, .int j] = .exc "NoChoice" := by
  obtain ⟨k, rfl⟩ : ∃ k', k = k' + 1 := ⟨k - 1, by omega⟩
  rw [call_has, run_ok rfl]
  have e1 := openAt_ok (T := T) (wf := wf) (nat := nat) (k := k) TK h (by omega)
  have e5 := nin_of (in_ns (ks := openAt t s) (j := j))
  rw [hj] at e5
  simp [Q.m_after, startE, e1, e5]
theorem led_exc [Has T "begun" Q.m_begun] [Has T "led" Q.m_led] (TK : TalkOk L t) {ks : List Nat} (h : goes t (beginM t) ks = some s) {j : Int} (hj : (decide (0 ≤ j) && (openAt t s).contains j.toNat) = false) (hk : 8 ≤ k) :
    callN T wf nat k "led" [tkD t, .tuple ((ks.map fun (i : Nat) => .int (i : Int)) ++ [.int j])] = .exc "NoChoice" := by
  obtain ⟨k, rfl⟩ : ∃ k', k = k' + 1 := ⟨k - 1, by omega⟩
  rw [call_has, run_ok rfl]
  have e0 := begun_ok (T := T) (wf := wf) (nat := nat) (k := k) TK.ne (by omega)
  have hso := goes_ok TK (begin_ok TK) h
  generalize hw : (PyData.tuple ((ks.map fun (i : Nat) => PyData.int (i : Int)) ++ [PyData.int j])) = wy
  have key : ∀ (ks : List Nat) (s0 : Sd) (y : Option D), SdOk L t s0 → goes t s0 ks = some s → ∃ z, forN (.name 3) (fun r1 => evSs (callN T wf nat k) wf (fb (Q.m_led.body.getD 1 .pass)) r1) ((ks.map fun (i : Nat) => .int (i : Int)) ++ [.int j]) [some (tkD t), some wy, some s0.enc, y] = .exc "NoChoice" z := fun ks => by
    induction ks with
    | nil =>
      intro s0 y hs h
      injection h with h; subst h
      have ea := after_exc (T := T) (wf := wf) (nat := nat) (k := k) TK hs hj (by omega)
      refine ⟨[some (tkD t), some wy, some s0.enc, some (.int j)], ?_⟩
      rw [List.map_nil, List.nil_append]
      unfold forN
      simp only [asg_name, R.toF_ok, put_s, put_z]
      have e5 : evSs (callN T wf nat k) wf (fb (Q.m_led.body.getD 1 .pass)) [some (tkD t), some wy, some s0.enc, some (.int j)] = .exc "NoChoice" [some (tkD t), some wy, some s0.enc, some (.int j)] := by
        simp [Q.m_led, fb, ea]
      rw [e5]
      rfl
    | cons i ks ih =>
      intro s0 y hs h
      have h : (if i ∈ openAt t s0 then goes t (afterM t s0 i) ks else none) = some s := h
      split at h
      · rename_i hi
        obtain ⟨z, e⟩ := ih (afterM t s0 i) (some (.int i)) (after_ok TK hs hi) h
        refine ⟨z, ?_⟩
        have ea := after_runs (T := T) (wf := wf) (nat := nat) (k := k) TK hs hi (by omega)
        rw [List.map_cons, List.cons_append]
        unfold forN
        simp only [asg_name, R.toF_ok, put_s, put_z]
        have e5 : evSs (callN T wf nat k) wf (fb (Q.m_led.body.getD 1 .pass)) [some (tkD t), some wy, some s0.enc, some (.int (i : Int))] = .nx [some (tkD t), some wy, some (afterM t s0 i).enc, some (.int (i : Int))] := by
          simp [Q.m_led, fb, ea]
        rw [e5]
        exact e
      · cases h
  obtain ⟨z, e⟩ := key ks (beginM t) none (begin_ok TK) h
  have hb : Q.m_led.body = [.set 2 (.call "begun" [.var 0]), .for_ (.name 3) .plain [.var 1] (fb (Q.m_led.body.getD 1 .pass)), .ret (.var 2)] := rfl
  rw [hb, show startE Q.m_led [tkD t, wy] = [some (tkD t), some wy, none, none] from rfl]
  generalize fb (Q.m_led.body.getD 1 .pass) = B at e ⊢
  have hi : itemsF .plain [wy] = .ok ((ks.map fun (i : Nat) => .int (i : Int)) ++ [.int j]) := by rw [← hw]; rfl
  simp [e0, hi, e]
end
end BT
set_option Elab.async false
set_option linter.all false
set_option maxRecDepth 100000
set_option maxHeartbeats 4000000
/-! BTX: searching by rows, and by a queue. -/
namespace BT
section
variable {α : Type} [DecidableEq α] (nx : α → List (Nat × α))
abbrev Fd (α : Type) := List (α × List Nat)
def wayOf (f : Fd α) (a : α) : List Nat := (alook f a).getD []
def add1 (w : List Nat) (st : Fd α × List α) (p : Nat × α) : Fd α × List α := if ahas st.1 p.2 then st else (st.1 ++ [(p.2, w ++ [p.1])], st.2 ++ [p.2])
def expand (st : Fd α × List α) (a : α) : Fd α × List α := (nx a).foldl (add1 (wayOf st.1 a)) st
inductive RunN : Nat → Fd α → List α → Fd α → Prop
  | nil {f : Fd α} : RunN 0 f [] f
  | cons {n : Nat} {f g : Fd α} {a : α} {q : List α} : RunN n (expand nx (f, q) a).1 (expand nx (f, q) a).2 g → RunN (n + 1) f (a :: q) g
theorem add1_app {w : List Nat} {f : Fd α} {q r : List α} {p : Nat × α} : add1 w (f, q ++ r) p = ((add1 w (f, r) p).1, q ++ (add1 w (f, r) p).2) := by
  unfold add1
  dsimp only
  split
  · rfl
  · dsimp only; rw [List.append_assoc]
theorem adds_app {w : List Nat} {q : List α} : ∀ {ps : List (Nat × α)} {f : Fd α} {r : List α}, ps.foldl (add1 w) (f, q ++ r) = ((ps.foldl (add1 w) (f, r)).1, q ++ (ps.foldl (add1 w) (f, r)).2)
  | [], f, r => rfl
  | p :: ps, f, r => by
    rw [List.foldl_cons, List.foldl_cons, add1_app, adds_app]
theorem expand_app {f : Fd α} {q r : List α} {a : α} : expand nx (f, q ++ r) a = ((expand nx (f, r) a).1, q ++ (expand nx (f, r) a).2) := adds_app
/-- a row of the queue, done at once -/
theorem run_row : ∀ {row : List α} {n : Nat} {f g : Fd α} {later : List α}, RunN nx n f (row ++ later) g → ∃ m, n = m + row.length ∧ RunN nx m (row.foldl (expand nx) (f, later)).1 (row.foldl (expand nx) (f, later)).2 g
  | [], n, f, g, later, h => ⟨n, rfl, h⟩
  | a :: row, n, f, g, later, h => by
    cases h with
    | cons h =>
      rename_i n'
      have h : RunN nx n' (expand nx (f, row ++ later) a).1 (expand nx (f, row ++ later) a).2 g := h
      rw [expand_app] at h
      obtain ⟨m, h1, h2⟩ := run_row h
      exact ⟨m, by rw [h1, List.length_cons]; omega, h2⟩
/-- what an expansion keeps -/
structure FdOk (P : α → Prop) (f : Fd α) : Prop where
  nd : (f.map Prod.fst).Nodup
  all : ∀ p ∈ f, P p.1
  len : ∀ p ∈ f, p.2.length < f.length
theorem ahas_app {f g : Fd α} {a : α} : ahas (f ++ g) a = (ahas f a || ahas g a) := List.any_append
theorem adds_ok {P : α → Prop} {w : List Nat} : ∀ {ps : List (Nat × α)} {st : Fd α × List α}, FdOk P st.1 → (∀ p ∈ ps, P p.2) → w.length < st.1.length →
    FdOk P (ps.foldl (add1 w) st).1 ∧ (∀ a, ahas st.1 a = true → ahas (ps.foldl (add1 w) st).1 a = true ∧ alook (ps.foldl (add1 w) st).1 a = alook st.1 a) ∧ (∀ a ∈ (ps.foldl (add1 w) st).2, a ∈ st.2 ∨ ahas (ps.foldl (add1 w) st).1 a = true) ∧
      (ps.foldl (add1 w) st).1.length + st.2.length = (ps.foldl (add1 w) st).2.length + st.1.length ∧ w.length < (ps.foldl (add1 w) st).1.length
  | [], st, h, _, hw => ⟨h, fun a ha => ⟨ha, rfl⟩, fun a ha => .inl ha, by show st.1.length + st.2.length = st.2.length + st.1.length; omega, hw⟩
  | p :: ps, st, h, hp, hw => by
    rw [List.foldl_cons]
    by_cases c : ahas st.1 p.2 = true
    · have e : add1 w st p = st := by unfold add1; rw [if_pos c]
      rw [e]
      exact adds_ok h (fun q hq => hp q (.tail _ hq)) hw
    · have e : add1 w st p = (st.1 ++ [(p.2, w ++ [p.1])], st.2 ++ [p.2]) := by unfold add1; rw [if_neg c]
      rw [e]
      have h2 : FdOk P (st.1 ++ [(p.2, w ++ [p.1])]) := by
        refine ⟨?_, fun q hq => ?_, fun q hq => ?_⟩
        · rw [List.map_append, List.nodup_append]
          refine ⟨h.nd, by simp, fun a ha b hb z => ?_⟩
          have hb : b = p.2 := by simpa using hb
          exact c (ahas_iff.mpr (by rw [← hb, ← z]; exact ha))
        · rcases List.mem_append.mp hq with z | z
          · exact h.all q z
          · rw [List.mem_singleton.mp z]; exact hp p (.head _)
        · rw [List.length_append, List.length_singleton]
          rcases List.mem_append.mp hq with z | z
          · have := h.len q z; omega
          · rw [List.mem_singleton.mp z, List.length_append, List.length_singleton]; omega
      have hw2 : w.length < (st.1 ++ [(p.2, w ++ [p.1])]).length := by rw [List.length_append]; omega
      obtain ⟨a1, a2, a3, a4, a5⟩ := adds_ok (ps := ps) (st := (st.1 ++ [(p.2, w ++ [p.1])], st.2 ++ [p.2])) h2 (fun q hq => hp q (.tail _ hq)) hw2
      have new : ahas (st.1 ++ [(p.2, w ++ [p.1])]) p.2 = true := by rw [ahas_app]; simp [ahas]
      refine ⟨a1, fun a ha => ?_, fun a ha => ?_, ?_, a5⟩
      · obtain ⟨b1, b2⟩ := a2 a (by show ahas (st.1 ++ _) a = true; rw [ahas_app, ha]; rfl)
        refine ⟨b1, b2.trans ?_⟩
        show alook (st.1 ++ _) a = _
        rw [alook_append]
        have : (alook st.1 a).isSome = true := by rw [alook_isSome]; exact ha
        cases e2 : alook st.1 a with
        | none => rw [e2] at this; cases this
        | some x => rfl
      · rcases a3 a ha with z | z
        · rcases List.mem_append.mp z with z | z
          · exact .inl z
          · rw [List.mem_singleton.mp z]; exact .inr (a2 p.2 new).1
        · exact .inr z
      · simp only [List.length_append, List.length_singleton] at a4
        omega
/-- a search that stays among finitely many ends -/
theorem wayOf_len {P : α → Prop} {f : Fd α} (h : FdOk P f) {a : α} (ha : ahas f a = true) : (wayOf f a).length < f.length := by
  have : (alook f a).isSome = true := by rw [alook_isSome]; exact ha
  unfold wayOf
  cases e : alook f a with
  | none => rw [e] at this; cases this
  | some x => exact h.len _ (alook_some e)
theorem expand_ok {P : α → Prop} (hn : ∀ a, P a → ∀ p ∈ nx a, P p.2) {st : Fd α × List α} {a : α} (h : FdOk P st.1) (ha : ahas st.1 a = true) :
    FdOk P (expand nx st a).1 ∧ (∀ b, ahas st.1 b = true → ahas (expand nx st a).1 b = true ∧ alook (expand nx st a).1 b = alook st.1 b) ∧ (∀ b ∈ (expand nx st a).2, b ∈ st.2 ∨ ahas (expand nx st a).1 b = true) ∧
      (expand nx st a).1.length + st.2.length = (expand nx st a).2.length + st.1.length := by
  obtain ⟨p, hp, e⟩ := List.mem_map.mp (ahas_iff.mp ha)
  have pa : P a := by rw [← e]; exact h.all p hp
  obtain ⟨a1, a2, a3, a4, _⟩ := adds_ok (ps := nx a) (w := wayOf st.1 a) h (hn a pa) (wayOf_len h ha)
  exact ⟨a1, a2, a3, a4⟩
theorem run_ex {P : α → Prop} {U : List α} (hn : ∀ a, P a → ∀ p ∈ nx a, P p.2) (hU : ∀ a, P a → a ∈ U) : ∀ (m : Nat) (f : Fd α) (q : List α), q.length + U.length ≤ m + f.length → FdOk P f → (∀ a ∈ q, ahas f a = true) →
    ∃ n g, n ≤ m ∧ RunN nx n f q g ∧ FdOk P g
  | m, f, [], hm, h, hq => ⟨0, f, Nat.zero_le _, .nil, h⟩
  | 0, f, a :: q, hm, h, hq => by
    exfalso
    have : (f.map Prod.fst).length ≤ U.length := nodup_le h.nd fun x hx => by
      obtain ⟨p, hp, rfl⟩ := List.mem_map.mp hx
      exact hU _ (h.all p hp)
    rw [List.length_map] at this
    simp only [List.length_cons] at hm
    omega
  | m + 1, f, a :: q, hm, h, hq => by
    obtain ⟨a1, a2, a3, a4⟩ := expand_ok nx hn (st := (f, q)) h (hq a (.head _))
    dsimp only at a2 a3 a4
    obtain ⟨n, g, h1, h2, h3⟩ := run_ex hn hU m (expand nx (f, q) a).1 (expand nx (f, q) a).2 (by simp only [List.length_cons] at hm; omega) a1 fun b hb => by
      rcases a3 b hb with z | z
      · exact (a2 b (hq b (.tail _ z))).1
      · exact z
    exact ⟨n + 1, g, by omega, .cons h2, h3⟩
end
end BT
set_option Elab.async false
set_option linter.all false
set_option maxRecDepth 100000
set_option maxHeartbeats 4000000
/-! BTY: dicts of stands; how many stands there can be. -/
namespace BT
open PySem
theorem map_inj' {α β : Type} {f : α → β} (h : ∀ a b, f a = f b → a = b) : ∀ {l m : List α}, l.map f = m.map f → l = m
  | [], [], _ => rfl
  | [], _ :: _, e => by cases e
  | _ :: _, [], e => by cases e
  | a :: l, b :: m, e => by
    simp only [List.map_cons, List.cons.injEq] at e
    rw [h a b e.1, map_inj' h e.2]
theorem pD_inj (p q : Str × Int) (h : pD p = pD q) : p = q := by
  simp only [pD, PyData.tuple.injEq, List.cons.injEq, PyData.str.injEq, PyData.int.injEq, and_true] at h
  exact Prod.ext h.1 h.2
theorem bkD_inj {b c : Bk} (h : bkD b = bkD c) : b = c := by
  simp only [bkD, PyData.tuple.injEq] at h
  exact map_inj' pD_inj h
theorem bnD_inj {b c : List Str} (h : bnD b = bnD c) : b = c := by
  simp only [bnD, PyData.tuple.injEq] at h
  exact map_inj' (fun a b e => by injection e) h
theorem oS_inj {a b : Option Str} (h : oS a = oS b) : a = b := by
  cases a <;> cases b
  · rfl
  · cases h
  · cases h
  · injection h with h; rw [h]
theorem sd_inj {a b : Sd} (h : a.enc = b.enc) : a = b := by
  unfold Sd.enc at h
  simp only [PyData.tuple.injEq, List.cons.injEq, and_true] at h
  obtain ⟨h1, h2, h3, h4⟩ := h
  cases a; cases b
  simp only [Sd.mk.injEq]
  exact ⟨oS_inj h1, bkD_inj h2, bnD_inj h3, bkD_inj h4⟩
theorem sd_eqv (a b : Sd) : PyData.eqv a.enc b.enc = decide (a = b) := by
  rw [Bool.eq_iff_iff, eqv_iff _ _ nb_sd nb_sd, decide_eq_true_eq]
  exact ⟨sd_inj, fun e => by rw [e]⟩
def fdD (f : Fd Sd) : D := .dict (dE Sd.enc nsD f)
def stL (q : List Sd) : D := .list (q.map Sd.enc)
theorem fd_fits {f : Fd Sd} {s : Sd} : keyFits (dE Sd.enc nsD f) s.enc = true := by
  show (shal 8 s.enc && nolist s.enc && (dE Sd.enc nsD f).all fun kv => isTupD kv.1) = true
  rw [shal_sd (n := 5), nolist_sd]
  simp only [Bool.and_self, Bool.true_and, dE, List.all_map, List.all_eq_true]
  intro p _
  rfl
theorem fd_nin {f : Fd Sd} {s : Sd} : cmpF .notin s.enc (fdD f) = .ok (!ahas f s) := by
  rw [c_nin]
  show (R.gd (keyFits (dE Sd.enc nsD f) s.enc) (.ok (dfind (dE Sd.enc nsD f) s.enc).isSome)).bind _ = _
  rw [fd_fits, gd_true, dfind_E sd_eqv, R.bind_ok, Option.isSome_map, alook_isSome]
theorem fd_idx {f : Fd Sd} {s : Sd} {w : List Nat} (h : alook f s = some w) : idxF (fdD f) s.enc = .ok (nsD w) := by
  show R.gd (keyFits (dE Sd.enc nsD f) s.enc) (.ofO (dfind (dE Sd.enc nsD f) s.enc)) = _
  rw [fd_fits, gd_true, dfind_E sd_eqv, h]; rfl
theorem fd_put {f : Fd Sd} {s : Sd} {w : List Nat} (h : ahas f s = false) (hl : f.length < LIM) : putF (fdD f) s.enc (nsD w) = .ok (fdD (f ++ [(s, w)])) := by
  show R.gd (keyFits (dE Sd.enc nsD f) s.enc && decide ((dE Sd.enc nsD f).length < LIM)) _ = _
  rw [fd_fits, dput_E sd_eqv]
  have : (dE Sd.enc nsD f).length = f.length := by simp [dE]
  rw [this, decide_eq_true hl]
  have e : aput f s w = f ++ [(s, w)] := by unfold aput; rw [h]; rfl
  rw [e]; rfl
theorem fd_disp {s : Sd} : (isTupD s.enc && keyFits [] s.enc) = true := by
  rw [show keyFits [] s.enc = true from fd_fits (f := [])]; rfl
theorem fd_one {s : Sd} : PyData.dict [(s.enc, PyData.tuple [])] = fdD [(s, [])] := rfl
theorem fd_allT {f : Fd Sd} : ((dE Sd.enc nsD f).all fun kv => isTupD kv.1) = true := by
  simp only [dE, List.all_map, List.all_eq_true]
  intro p _
  rfl
theorem fd_keys {f : Fd Sd} : keysOf (dE Sd.enc nsD f) = (f.map Prod.fst).map Sd.enc := by
  unfold keysOf dE
  rw [List.map_map, List.map_map]; rfl
theorem fd_list {f : Fd Sd} : bltF .list [fdD f] = .ok (stL (f.map Prod.fst)) := by
  show R.gd (((dE Sd.enc nsD f).all fun kv => isStrD kv.1) || ((dE Sd.enc nsD f).all fun kv => isTupD kv.1)) (.ok (PyData.list (keysOf (dE Sd.enc nsD f)))) = _
  rw [fd_allT, Bool.or_true, fd_keys]; rfl
theorem fd_tuple {f : Fd Sd} : bltF .tuple [fdD f] = .ok (PyData.tuple ((f.map Prod.fst).map Sd.enc)) := by
  show R.gd ((dE Sd.enc nsD f).all fun kv => isTupD kv.1) (.ok (PyData.tuple (keysOf (dE Sd.enc nsD f)))) = _
  rw [fd_allT, fd_keys]; rfl
theorem ns_snocL {ks : List Nat} {k : Nat} (h : ks.length < LIM) : binF .add (nsD ks) (.tuple [.int (k : Int)]) = .ok (nsD (ks ++ [k])) := by
  show binF .add (PyData.tuple (ks.map fun (k : Nat) => PyData.int (k : Int))) _ = _
  rw [b_addT (by simp; omega)]
  simp [nsD]
/-! ### how many -/
section
variable {α : Type} [DecidableEq α]
def ddp : List α → List α
  | [] => []
  | x :: r => if x ∈ r then ddp r else x :: ddp r
theorem ddp_mem : ∀ (xs : List α) (x : α), x ∈ ddp xs ↔ x ∈ xs
  | [], x => Iff.rfl
  | y :: r, x => by
    simp only [ddp]
    split
    · rename_i h
      rw [ddp_mem r x, List.mem_cons]
      exact ⟨.inr, fun z => z.elim (fun e => e ▸ h) id⟩
    · rw [List.mem_cons, List.mem_cons, ddp_mem r x]
theorem ddp_nodup : ∀ xs : List α, (ddp xs).Nodup
  | [] => List.nodup_nil
  | y :: r => by
    simp only [ddp]
    split
    · exact ddp_nodup r
    · rename_i h
      exact List.nodup_cons.mpr ⟨fun z => h ((ddp_mem r y).1 z), ddp_nodup r⟩
theorem ddp_len : ∀ xs : List α, (ddp xs).length ≤ xs.length
  | [] => Nat.le_refl _
  | y :: r => by
    have := ddp_len r
    simp only [ddp]
    split <;> simp only [List.length_cons] <;> omega
def subs : List α → List (List α)
  | [] => [[]]
  | x :: r => subs r ++ (subs r).map (x :: ·)
theorem subs_len : ∀ xs : List α, (subs xs).length = 2 ^ xs.length
  | [] => rfl
  | x :: r => by
    rw [subs, List.length_append, List.length_map, subs_len r, List.length_cons, Nat.pow_succ]; omega
theorem subs_mem (p : α → Bool) : ∀ xs : List α, xs.filter p ∈ subs xs
  | [] => .head _
  | x :: r => by
    rw [subs, List.mem_append, List.filter_cons]
    split
    · exact .inr (List.mem_map.mpr ⟨_, subs_mem p r, rfl⟩)
    · exact .inl (subs_mem p r)
theorem sub_of {le : α → α → Bool} (T : W.TotalLe le) (anti : ∀ a b, le a b = true → le b a = true → a = b) {s xs : List α} (hs : s.Pairwise fun a b => le a b = true ∧ a ≠ b) (hx : ∀ x ∈ s, x ∈ xs) : s ∈ subs ((ddp xs).mergeSort le) := by
  have e : s = ((ddp xs).mergeSort le).filter fun x => decide (x ∈ s) := by
    have hp := List.mergeSort_perm (ddp xs) le
    refine perm_uniq (R := fun a b => le a b = true) anti (perm_nodup (hs.imp fun h => h.2) (((hp.nodup_iff).mpr (ddp_nodup xs)).filter _) fun x => ?_) (hs.imp fun h => h.1) ?_
    · rw [List.mem_filter, hp.mem_iff, ddp_mem, decide_eq_true_eq]
      exact ⟨fun h => ⟨hx x h, h⟩, fun h => h.2⟩
    · exact (List.pairwise_mergeSort (le := le) (fun a b c h1 h2 => T.trans a b c h1 h2) (fun a b => by rw [Bool.or_eq_true]; exact T.total a b) _).filter _
  rw [e]
  exact subs_mem _ _
def vecs : Nat → List (List Int)
  | 0 => [[]]
  | n + 1 => [(0 : Int), 1, 2, 3].flatMap fun v => (vecs n).map (v :: ·)
theorem vecs_len : ∀ n, (vecs n).length = 4 ^ n
  | 0 => rfl
  | n + 1 => by
    simp only [vecs, List.flatMap_cons, List.flatMap_nil, List.length_append, List.length_map, vecs_len n, List.length_nil, Nat.pow_succ]; omega
theorem vecs_mem {f : α → Int} (h : ∀ x, 0 ≤ f x ∧ f x ≤ 3) : ∀ l : List α, l.map f ∈ vecs l.length
  | [] => .head _
  | x :: l => by
    rw [List.map_cons, List.length_cons, vecs, List.mem_flatMap]
    refine ⟨f x, ?_, List.mem_map.mpr ⟨_, vecs_mem h l, rfl⟩⟩
    have := h x
    have : f x = 0 ∨ f x = 1 ∨ f x = 2 ∨ f x = 3 := by omega
    simpa using this
end
def allBk (L : List Str) : List Bk := (vecs (ddp L).length).map fun v => canon ((ddp L).zip v)
theorem allBk_len (L : List Str) : (allBk L).length ≤ 4 ^ L.length := by
  rw [allBk, List.length_map, vecs_len]
  exact Nat.pow_le_pow_right (by decide) (ddp_len L)
theorem zip_map {α β : Type} (f : α → β) : ∀ l : List α, l.zip (l.map f) = l.map fun x => (x, f x)
  | [] => rfl
  | x :: l => by rw [List.map_cons, List.zip_cons_cons, List.map_cons, zip_map f l]
theorem bk_mem {L : List Str} {b : Bk} (h : Good b) (hk : ∀ p ∈ b, p.1 ∈ L) : b ∈ allBk L := by
  refine List.mem_map.mpr ⟨(ddp L).map (num b), vecs_mem h.num_rng _, ?_⟩
  rw [zip_map]
  have hf : ((ddp L).map fun x => (x, num b x)).map Prod.fst = ddp L := by rw [List.map_map]; simp [Function.comp_def]
  have nd : (((ddp L).map fun x => (x, num b x)).map Prod.fst).Nodup := by rw [hf]; exact ddp_nodup L
  have hn : ∀ s, num ((ddp L).map fun x => (x, num b x)) s = num b s := fun s => by
    by_cases hs : s ∈ ddp L
    · exact num_mem nd (p := (s, num b s)) (List.mem_map.mpr ⟨s, hs, rfl⟩)
    · have e1 : num ((ddp L).map fun x => (x, num b x)) s = 0 := by
        show (alook ((ddp L).map fun x => (x, num b x)) s).getD 0 = 0
        rw [alook_none (by rw [hf]; exact hs)]; rfl
      have e2 : num b s = 0 := by
        unfold num
        rw [alook_none fun z => hs ((ddp_mem L s).2 (by
          obtain ⟨p, hp, rfl⟩ := List.mem_map.mp z
          exact hk p hp))]; rfl
      rw [e1, e2]
  have h3 : ∀ s, num ((ddp L).map fun x => (x, num b x)) s ≤ 3 := fun s => by rw [hn]; exact (h.num_rng s).2
  have h0 : ∀ s, 0 ≤ num ((ddp L).map fun x => (x, num b x)) s := fun s => by rw [hn]; exact (h.num_rng s).1
  exact good_ext (canon_good nd h3) h fun s => by rw [num_canon nd h0 h3, hn]
def allSd (L : List Str) (t : Talk) : List Sd :=
  (none :: (names t).map some).flatMap fun pl => (allBk L).flatMap fun bk => (subs ((ddp (names t)).mergeSort leS)).flatMap fun bn => (subs ((ddp (allCh t)).mergeSort leP)).map fun tk => ⟨pl, bk, bn, tk⟩
theorem flat_len {α β : Type} {l : List α} {f : α → List β} {n : Nat} (h : ∀ x ∈ l, (f x).length ≤ n) : (l.flatMap f).length ≤ l.length * n := by
  rw [List.length_flatMap]
  have := sum_le (l := l.map fun x => (f x).length) (m := n) (fun y hy => by
    obtain ⟨x, hx, rfl⟩ := List.mem_map.mp hy
    exact h x hx)
  rw [List.length_map] at this
  exact this
theorem allSd_len {L : List Str} {t : Talk} : (allSd L t).length ≤ (t.length + 1) * (4 ^ L.length * (2 ^ t.length * 2 ^ (allCh t).length)) := by
  have e1 : (none :: (names t).map some).length = t.length + 1 := by simp [names]
  have e2 : ((ddp (names t)).mergeSort leS).length ≤ t.length := by
    have := ddp_len (names t)
    rw [List.length_mergeSort]
    simpa [names] using this
  have e3 : ((ddp (allCh t)).mergeSort leP).length ≤ (allCh t).length := by
    rw [List.length_mergeSort]
    exact ddp_len _
  unfold allSd
  refine Nat.le_trans (flat_len fun pl _ => Nat.le_trans (flat_len fun bk _ => flat_len fun bn _ => Nat.le_of_eq (List.length_map _)) ?h) (Nat.le_of_eq (by rw [e1]))
  case h =>
    rw [subs_len, subs_len]
    exact Nat.mul_le_mul (allBk_len L) (Nat.mul_le_mul (Nat.pow_le_pow_right (by decide) e2) (Nat.pow_le_pow_right (by decide) e3))
theorem allSd_mem {L : List Str} {t : Talk} {s : Sd} (h : SdOk L t s) : s ∈ allSd L t := by
  refine List.mem_flatMap.mpr ⟨s.pl, ?_, List.mem_flatMap.mpr ⟨s.bk, bk_mem h.good h.keys, List.mem_flatMap.mpr ⟨s.been, sub_of leS_T (fun _ _ => leS_anti) h.been h.beenN, List.mem_map.mpr ⟨s.taken, sub_of leP_T (fun _ _ => leP_anti) h.tkn fun p hp => ?_, rfl⟩⟩⟩⟩
  · cases hp : s.pl with
    | none => exact .head _
    | some n => exact .tail _ (List.mem_map.mpr ⟨n, h.beenN n (h.pl n hp), rfl⟩)
  · obtain ⟨q, k, hq, rfl, hk⟩ := h.tknN p hp
    exact List.mem_flatMap.mpr ⟨q, hq, List.mem_map.mpr ⟨k, List.mem_range.mpr hk, rfl⟩⟩
/-! ### the search of stands -/
def nxS (t : Talk) (s : Sd) : List (Nat × Sd) := (openAt t s).map fun k => (k, afterM t s k)
theorem nxS_ok {L : List Str} {t : Talk} (TK : TalkOk L t) (s : Sd) (h : SdOk L t s) : ∀ p ∈ nxS t s, SdOk L t p.2 := fun p hp => by
  obtain ⟨k, hk, rfl⟩ := List.mem_map.mp hp
  exact after_ok TK h hk
theorem reach_ex {L : List Str} {t : Talk} (TK : TalkOk L t) : ∃ n g, n ≤ (allSd L t).length ∧ RunN (nxS t) n [(beginM t, [])] [beginM t] g ∧ FdOk (SdOk L t) g := by
  refine run_ex (nxS t) (nxS_ok TK) (U := allSd L t) (fun a h => allSd_mem h) (allSd L t).length _ _ (by simp only [List.length_singleton]; omega) ⟨by simp, fun p hp => ?_, fun p hp => ?_⟩ fun a ha => ?_
  · rw [List.mem_singleton.mp hp]; exact begin_ok TK
  · rw [List.mem_singleton.mp hp]; simp
  · rw [List.mem_singleton.mp ha]; simp [ahas]
end BT
set_option Elab.async false
set_option linter.all false
/-! BTDf: shared functions, compiled (printed by shared.py) -/
namespace BT.Q
open BT PySem
def m_ways_from : MFun := ⟨1, 7, [1, 3], [
  .setL 1 (.ddisp (.call "begun" [(.var 0)]) (.tup [])),
  .set 2 (.blt .list [(.lin 1)]),
  .while_ (.var 2) [
    .setL 3 (.lst []),
    .for_ (.name 4) .plain [(.var 2)] [
      .for_ (.name 5) .plain [(.call "open_at" [(.var 0), (.var 4)])] [
        .set 6 (.call "after" [(.var 0), (.var 4), (.var 5)]),
        .iff (.cmp .notin (.var 6) (.lin 1)) [
          .put 1 (.var 6) (.bin .add (.idx (.lin 1) (.var 4)) (.tup [(.var 5)])),
          .app 3 (.var 6)] []]],
    .mv 2 3],
  .ret (.lin 1)]⟩
def m_reach : MFun := ⟨1, 1, [], [
  .ret (.blt .tuple [(.call "ways_from" [(.var 0)])])]⟩
def m__law_after : MFun := ⟨3, 10, [], [
  .unp [3, 4, 5, 6, 7] (.idx (.call "_law_choices" [(.var 0), (.var 1)]) (.var 2)),
  .set 8 (.blt .sortset [(.bin .add (.blt .list [(.idx (.var 1) (.int (2)))]) (.bin .mul (.lst [(.var 6)]) (.blt .int [(.cmp .isnot (.var 6) .non)])))]),
  .set 9 (.blt .sorted [(.bin .add (.blt .list [(.idx (.var 1) (.int (3)))]) (.bin .mul (.lst [(.tup [(.idx (.var 1) (.int (0))), (.var 2)])]) (.blt .int [(.var 7)])))]),
  .ret (.tup [(.var 6), (.call "_law_done" [(.idx (.var 1) (.int (1))), (.var 5)]), (.blt .tuple [(.var 8)]), (.blt .tuple [(.var 9)])])]⟩
def m__law_reach : MFun := ⟨1, 6, [1, 2], [
  .setL 1 (.ddisp (.call "_law_begun" [(.var 0)]) (.tup [])),
  .setL 2 (.blt .list [(.lin 1)]),
  .while_ (.lin 2) [
    .pop0 3 2,
    .for_ (.name 4) .plain [(.call "_law_open" [(.var 0), (.var 3)])] [
      .set 5 (.call "_law_after" [(.var 0), (.var 3), (.var 4)]),
      .iff (.cmp .notin (.var 5) (.lin 1)) [
        .put 1 (.var 5) (.bin .add (.idx (.lin 1) (.var 3)) (.tup [(.var 4)])),
        .app 2 (.var 5)] []]],
  .ret (.lin 1)]⟩
end BT.Q
set_option Elab.async false
set_option linter.all false
set_option maxRecDepth 100000
set_option maxHeartbeats 4000000
/-! BTZ: what ways_from, reach and their twins of the laws compute. -/
namespace BT
open PySem
/-- where a search stands, within its bounds -/
structure SrOk (L : List Str) (t : Talk) (st : Fd Sd × List Sd) : Prop where
  fd : FdOk (SdOk L t) st.1
  q : st.2.length ≤ st.1.length
  has : ∀ a ∈ st.2, ahas st.1 a = true
theorem fd_small {L : List Str} {t : Talk} {f : Fd Sd} (h : FdOk (SdOk L t) f) : f.length ≤ (allSd L t).length := by
  have := nodup_le h.nd fun x hx => by
    obtain ⟨p, hp, rfl⟩ := List.mem_map.mp hx
    exact allSd_mem (h.all p hp)
  rw [List.length_map] at this
  exact this
theorem has_look {α β : Type} [DecidableEq α] {f : List (α × β)} {a : α} (h : ahas f a = true) : ∃ w, alook f a = some w := by
  have : (alook f a).isSome = true := by rw [alook_isSome]; exact h
  cases e : alook f a with
  | none => rw [e] at this; cases this
  | some w => exact ⟨w, rfl⟩
def stepS (t : Talk) (s : Sd) (w : List Nat) (st : Fd Sd × List Sd) (k : Nat) : Fd Sd × List Sd := add1 w st (k, afterM t s k)
theorem expand_S {t : Talk} {s : Sd} {st : Fd Sd × List Sd} : expand (nxS t) st s = (openAt t s).foldl (stepS t s (wayOf st.1 s)) st := by
  unfold expand nxS
  rw [List.foldl_map]; rfl
/-- a part of an expansion -/
theorem part_ok {L : List Str} {t : Talk} {s : Sd} {st : Fd Sd × List Sd} (TK : TalkOk L t) (h : SrOk L t st) (ha : ahas st.1 s = true) (ks : List Nat) (hk : ∀ k ∈ ks, k ∈ openAt t s) :
    SrOk L t (ks.foldl (stepS t s (wayOf st.1 s)) st) ∧ alook (ks.foldl (stepS t s (wayOf st.1 s)) st).1 s = some (wayOf st.1 s) ∧ (∀ a, ahas st.1 a = true → ahas (ks.foldl (stepS t s (wayOf st.1 s)) st).1 a = true) := by
  obtain ⟨p, hp, e⟩ := List.mem_map.mp (ahas_iff.mp ha)
  have pa : SdOk L t s := by rw [← e]; exact h.fd.all p hp
  have ef : ks.foldl (stepS t s (wayOf st.1 s)) st = (ks.map fun k => (k, afterM t s k)).foldl (add1 (wayOf st.1 s)) st := by rw [List.foldl_map]; rfl
  rw [ef]
  obtain ⟨a1, a2, a3, a4, _⟩ := adds_ok (ps := ks.map fun k => (k, afterM t s k)) (w := wayOf st.1 s) (st := st) h.fd (fun p hp => by
    obtain ⟨k, hk', rfl⟩ := List.mem_map.mp hp
    exact after_ok TK pa (hk k hk')) (wayOf_len h.fd ha)
  refine ⟨⟨a1, ?_, fun a ha' => (a3 a ha').elim (fun z => (a2 a (h.has a z)).1) id⟩, ?_, fun a h => (a2 a h).1⟩
  · have := h.q
    omega
  · rw [(a2 s ha).2]
    obtain ⟨w, hw⟩ := has_look ha
    unfold wayOf
    rw [hw]; rfl
theorem stepS_in {t : Talk} {s : Sd} {w : List Nat} {st : Fd Sd × List Sd} {k : Nat} (h : ahas st.1 (afterM t s k) = true) : stepS t s w st k = st := by
  unfold stepS add1; rw [if_pos h]
theorem stepS_new {t : Talk} {s : Sd} {w : List Nat} {st : Fd Sd × List Sd} {k : Nat} (h : ahas st.1 (afterM t s k) = false) : stepS t s w st k = (st.1 ++ [(afterM t s k, w ++ [k])], st.2 ++ [afterM t s k]) := by
  unfold stepS add1; rw [if_neg (by rw [h]; exact Bool.false_ne_true)]
theorem st_snoc {q : List Sd} {s : Sd} : PyData.list (q.map Sd.enc ++ [s.enc]) = stL (q ++ [s]) := by simp [stL]
/-- what the calls of the search give -/
structure Sx (C : CallF) (L : List Str) (t : Talk) (op af : Str) : Prop where
  op : ∀ s, SdOk L t s → C op [tkD t, s.enc] = .ok (nsD (openAt t s))
  af : ∀ s, SdOk L t s → ∀ j, j ∈ openAt t s → C af [tkD t, s.enc, .int (j : Int)] = .ok (afterM t s j).enc
def bW : List MS := [
        .set 6 (.call "after" [(.var 0), (.var 4), (.var 5)]),
        .iff (.cmp .notin (.var 6) (.lin 1)) [
          .put 1 (.var 6) (.bin .add (.idx (.lin 1) (.var 4)) (.tup [(.var 5)])),
          .app 3 (.var 6)] []]
section
variable {C : CallF} {L : List Str} {t : Talk} {wf : Nat}
/-- one stand of a row -/
theorem inW (TK : TalkOk L t) (X : Sx C L t "open_at" "after") (hU : (allSd L t).length < LIM) {st : Fd Sd × List Sd} {s : Sd} (h : SrOk L t st) (ha : ahas st.1 s = true) (y2 y5 y6 : Option D) :
    ∃ y5' y6', evSs C wf [.for_ (.name 5) .plain [(.call "open_at" [(.var 0), (.var 4)])] bW] [some (tkD t), some (fdD st.1), y2, some (stL st.2), some s.enc, y5, y6] =
      .nx [some (tkD t), some (fdD (expand (nxS t) st s).1), y2, some (stL (expand (nxS t) st s).2), some s.enc, y5', y6'] := by
  obtain ⟨p, hp, e⟩ := List.mem_map.mp (ahas_iff.mp ha)
  have pa : SdOk L t s := by rw [← e]; exact h.fd.all p hp
  have e1 := X.op s pa
  obtain ⟨r', e2, y5', y6', e3⟩ := forN_fold (tg := .name 5) (body := fun r1 => evSs C wf bW r1) (fun k : Nat => .int (k : Int))
    (fun (st' : Fd Sd × List Sd) r => ∃ y5 y6, r = [some (tkD t), some (fdD st'.1), y2, some (stL st'.2), some s.enc, y5, y6]) (stepS t s (wayOf st.1 s)) (openAt t s) st _ ⟨y5, y6, rfl⟩ (fun pre k post r eq hr => by
      obtain ⟨y5, y6, rfl⟩ := hr
      have hk : k ∈ openAt t s := by rw [eq]; simp
      obtain ⟨b1, b2, b3⟩ := part_ok TK h ha pre fun j hj => by rw [eq]; exact List.mem_append_left _ hj
      generalize pre.foldl (stepS t s (wayOf st.1 s)) st = st' at b1 b2 b3 ⊢
      have c1 := X.af s pa k hk
      have c2 := fd_nin (f := st'.1) (s := afterM t s k)
      have c3 := fd_idx b2
      have hl : st'.1.length < LIM := Nat.lt_of_le_of_lt (fd_small b1.fd) hU
      have hq : st'.2.length < LIM := Nat.lt_of_le_of_lt b1.q hl
      have hw : (wayOf st.1 s).length < LIM := Nat.lt_trans (b1.fd.len _ (alook_some b2)) hl
      have c4 := ns_snocL (k := k) hw
      cases hin : ahas st'.1 (afterM t s k) with
      | true =>
        rw [hin] at c2
        rw [stepS_in hin]
        refine ⟨_, _, rfl, .inl ?_, some (.int (k : Int)), some (afterM t s k).enc, rfl⟩
        simp [bW, c1, c2]
      | false =>
        rw [hin] at c2
        have c5 := fd_put (w := wayOf st.1 s ++ [k]) hin hl
        have hq' : (st'.2.map Sd.enc).length < LIM := by simpa using hq
        have c6 : ∀ r, get r 3 = .ok (stL st'.2) → evS C wf (.app 3 (.var 6)) r = ((ev C (.var 6) r).toF r fun d => if (st'.2.map Sd.enc).length < LIM then .nx (put r 3 (.list (st'.2.map Sd.enc ++ [d]))) else .bad) := fun r hr => eS_app hr
        rw [stepS_new hin]
        refine ⟨_, _, rfl, .inl ?_, some (.int (k : Int)), some (afterM t s k).enc, rfl⟩
        simp [bW, c1, c2, c3, c4, c5]
        rw [c6 _ rfl]
        simp [hq, st_snoc])
  refine ⟨y5', y6', ?_⟩
  rw [e3] at e2
  rw [expand_S]
  simp only [eSs_c, eSs_n, eS_for_, evs_c, evs_n, ev_call, ev_var, get_z, get_s, R.bind_ok, e1, R.toF_ok, it_ns, e2, F.then_nx]
theorem exp_ok (TK : TalkOk L t) {st : Fd Sd × List Sd} {s : Sd} (h : SrOk L t st) (ha : ahas st.1 s = true) : SrOk L t (expand (nxS t) st s) ∧ ∀ a, ahas st.1 a = true → ahas (expand (nxS t) st s).1 a = true := by
  rw [expand_S]
  obtain ⟨a, _, c⟩ := part_ok TK h ha (openAt t s) fun k hk => hk
  exact ⟨a, c⟩
theorem exps_ok (TK : TalkOk L t) : ∀ {row : List Sd} {st : Fd Sd × List Sd}, SrOk L t st → (∀ a ∈ row, ahas st.1 a = true) → SrOk L t (row.foldl (expand (nxS t)) st) ∧ ∀ a, ahas st.1 a = true → ahas (row.foldl (expand (nxS t)) st).1 a = true
  | [], st, h, _ => ⟨h, fun _ z => z⟩
  | s :: row, st, h, ha => by
    obtain ⟨a1, a2⟩ := exp_ok TK h (ha s (.head _))
    obtain ⟨b1, b2⟩ := exps_ok TK a1 fun a z => a2 a (ha a (.tail _ z))
    exact ⟨b1, fun a z => b2 a (a2 a z)⟩
theorem it_st {q : List Sd} : itemsF .plain [stL q] = .ok (q.map Sd.enc) := rfl
theorem tst_st {q : List Sd} : tst (stL q) = .ok (!q.isEmpty) := by
  show R.ok (!(q.map Sd.enc).isEmpty) = _
  rw [List.isEmpty_map]
def bW2 : List MS := [.for_ (.name 5) .plain [(.call "open_at" [(.var 0), (.var 4)])] bW]
theorem rowW (TK : TalkOk L t) (X : Sx C L t "open_at" "after") (hU : (allSd L t).length < LIM) {f : Fd Sd} {row : List Sd} (h : FdOk (SdOk L t) f) (ha : ∀ a ∈ row, ahas f a = true) (y4 y5 y6 : Option D) :
    ∃ y4' y5' y6', forN (.name 4) (fun r1 => evSs C wf bW2 r1) (row.map Sd.enc) [some (tkD t), some (fdD f), some (stL row), some (stL []), y4, y5, y6] =
      .nx [some (tkD t), some (fdD (row.foldl (expand (nxS t)) (f, [])).1), some (stL row), some (stL (row.foldl (expand (nxS t)) (f, [])).2), y4', y5', y6'] := by
  have h0 : SrOk L t (f, []) := ⟨h, Nat.zero_le _, fun a z => nomatch z⟩
  obtain ⟨r', e2, y4', y5', y6', e3⟩ := forN_fold (tg := .name 4) (body := fun r1 => evSs C wf bW2 r1) Sd.enc
    (fun (st' : Fd Sd × List Sd) r => ∃ y4 y5 y6, r = [some (tkD t), some (fdD st'.1), some (stL row), some (stL st'.2), y4, y5, y6]) (expand (nxS t)) row (f, []) _ ⟨y4, y5, y6, rfl⟩ (fun pre s post r eq hr => by
      obtain ⟨y4, y5, y6, rfl⟩ := hr
      obtain ⟨b1, b2⟩ := exps_ok TK h0 (row := pre) fun a z => ha a (by rw [eq]; exact List.mem_append_left _ z)
      generalize pre.foldl (expand (nxS t)) (f, []) = st' at b1 b2 ⊢
      obtain ⟨y5', y6', e⟩ := inW (wf := wf) TK X hU b1 (b2 s (ha s (by rw [eq]; simp))) (some (stL row)) y5 y6
      exact ⟨_, _, rfl, .inl e, _, _, _, rfl⟩)
  rw [e3] at e2
  exact ⟨y4', y5', y6', e2⟩
def bW3 : List MS := [.setL 3 (.lst []), .for_ (.name 4) .plain [(.var 2)] bW2, .mv 2 3]
theorem whileW (TK : TalkOk L t) (X : Sx C L t "open_at" "after") (hU : (allSd L t).length < LIM) : ∀ (n m : Nat) (f g : Fd Sd) (row : List Sd) (y3 y4 y5 y6 : Option D), m < n → RunN (nxS t) m f row g → FdOk (SdOk L t) f → (∀ a ∈ row, ahas f a = true) →
    ∃ y2' y3' y4' y5' y6', whileN (fun r1 => (ev C (.var 2) r1).bind tst) (fun r1 => evSs C wf bW3 r1) n [some (tkD t), some (fdD f), some (stL row), y3, y4, y5, y6] = .nx [some (tkD t), some (fdD g), y2', y3', y4', y5', y6'] := by
  intro n
  induction n with
  | zero => intro m f g row _ _ _ _ hm; omega
  | succ n ih =>
    intro m f g row y3 y4 y5 y6 hm hr h ha
    simp only [whileN, ev_var, get_s, get_z, R.bind_ok, tst_st, R.toF_ok]
    cases hrow : row with
    | nil =>
      subst hrow
      cases hr
      simp only [List.isEmpty_nil, Bool.not_true, Bool.false_eq_true, if_false]
      exact ⟨_, _, _, _, _, rfl⟩
    | cons s row' =>
      rw [← hrow]
      have hr' : RunN (nxS t) m f (row ++ []) g := by rw [List.append_nil]; exact hr
      obtain ⟨m', em, hr2⟩ := run_row (nxS t) hr'
      have hlen : 0 < row.length := by rw [hrow]; simp
      obtain ⟨y4', y5', y6', e⟩ := rowW (wf := wf) TK X hU h ha y4 y5 y6
      obtain ⟨b1, b2⟩ := exps_ok TK (row := row) (st := (f, [])) ⟨h, Nat.zero_le _, fun a z => nomatch z⟩ ha
      have hne : row.isEmpty = false := by rw [hrow]; rfl
      have ebody : evSs C wf bW3 [some (tkD t), some (fdD f), some (stL row), y3, y4, y5, y6] = .nx [some (tkD t), some (fdD (row.foldl (expand (nxS t)) (f, [])).1), some (stL (row.foldl (expand (nxS t)) (f, [])).2), none, y4', y5', y6'] := by
        have e0 : PyData.list [] = stL [] := rfl
        unfold bW3
        generalize bW2 = B at e ⊢
        simp [it_st, e0, e]
      rw [hne, ebody]
      simp only [Bool.not_false, if_true, F.turn_nx]
      exact ih m' _ g _ none y4' y5' y6' (by omega) hr2 b1.fd b1.has
theorem waysFrom_run (TK : TalkOk L t) (X : Sx C L t "open_at" "after") (hb : C "begun" [tkD t] = .ok (beginM t).enc) (hU : (allSd L t).length < LIM) {n : Nat} {g : Fd Sd} (hw : n < wf) (hr : RunN (nxS t) n [(beginM t, [])] [beginM t] g) :
    runF C wf Q.m_ways_from [tkD t] = .ok (fdD g) := by
  rw [run_ok rfl]
  have h0 : FdOk (SdOk L t) [(beginM t, [])] := by
    refine ⟨by simp, fun p hp => ?_, fun p hp => ?_⟩
    · rw [List.mem_singleton.mp hp]; exact begin_ok TK
    · rw [List.mem_singleton.mp hp]; simp
  obtain ⟨y2, y3, y4, y5, y6, e⟩ := whileW (wf := wf) TK X hU wf n [(beginM t, [])] g [beginM t] none none none none hw hr h0 fun a ha => by rw [List.mem_singleton.mp ha]; simp [ahas]
  have hbody : Q.m_ways_from.body = [.setL 1 (.ddisp (.call "begun" [.var 0]) (.tup [])), .set 2 (.blt .list [.lin 1]), .while_ (.var 2) bW3, .ret (.lin 1)] := rfl
  have hst : startE Q.m_ways_from [tkD t] = [some (tkD t), none, none, none, none, none, none] := rfl
  have c1 := fd_list (f := [(beginM t, [])])
  have c2 := fd_disp (s := beginM t)
  rw [hbody, hst]
  generalize bW3 = B at e ⊢
  simp only [List.map_cons, List.map_nil] at c1
  simp [-eS_while_, hb, c2, fd_one, c1]
  rw [eS_while_, e]
  simp
/-! ### the law's own search -/
def bL : List MS := [
      .set 5 (.call "_law_after" [(.var 0), (.var 3), (.var 4)]),
      .iff (.cmp .notin (.var 5) (.lin 1)) [
        .put 1 (.var 5) (.bin .add (.idx (.lin 1) (.var 3)) (.tup [(.var 4)])),
        .app 2 (.var 5)] []]
theorem inL (TK : TalkOk L t) (X : Sx C L t "_law_open" "_law_after") (hU : (allSd L t).length < LIM) {st : Fd Sd × List Sd} {s : Sd} (h : SrOk L t st) (ha : ahas st.1 s = true) (y4 y5 : Option D) :
    ∃ y4' y5', evSs C wf [.for_ (.name 4) .plain [(.call "_law_open" [(.var 0), (.var 3)])] bL] [some (tkD t), some (fdD st.1), some (stL st.2), some s.enc, y4, y5] =
      .nx [some (tkD t), some (fdD (expand (nxS t) st s).1), some (stL (expand (nxS t) st s).2), some s.enc, y4', y5'] := by
  obtain ⟨p, hp, e⟩ := List.mem_map.mp (ahas_iff.mp ha)
  have pa : SdOk L t s := by rw [← e]; exact h.fd.all p hp
  have e1 := X.op s pa
  obtain ⟨r', e2, y4', y5', e3⟩ := forN_fold (tg := .name 4) (body := fun r1 => evSs C wf bL r1) (fun k : Nat => .int (k : Int))
    (fun (st' : Fd Sd × List Sd) r => ∃ y4 y5, r = [some (tkD t), some (fdD st'.1), some (stL st'.2), some s.enc, y4, y5]) (stepS t s (wayOf st.1 s)) (openAt t s) st _ ⟨y4, y5, rfl⟩ (fun pre k post r eq hr => by
      obtain ⟨y4, y5, rfl⟩ := hr
      have hk : k ∈ openAt t s := by rw [eq]; simp
      obtain ⟨b1, b2, b3⟩ := part_ok TK h ha pre fun j hj => by rw [eq]; exact List.mem_append_left _ hj
      generalize pre.foldl (stepS t s (wayOf st.1 s)) st = st' at b1 b2 b3 ⊢
      have c1 := X.af s pa k hk
      have c2 := fd_nin (f := st'.1) (s := afterM t s k)
      have c3 := fd_idx b2
      have hl : st'.1.length < LIM := Nat.lt_of_le_of_lt (fd_small b1.fd) hU
      have hq : st'.2.length < LIM := Nat.lt_of_le_of_lt b1.q hl
      have hw : (wayOf st.1 s).length < LIM := Nat.lt_trans (b1.fd.len _ (alook_some b2)) hl
      have c4 := ns_snocL (k := k) hw
      cases hin : ahas st'.1 (afterM t s k) with
      | true =>
        rw [hin] at c2
        rw [stepS_in hin]
        refine ⟨_, _, rfl, .inl ?_, some (.int (k : Int)), some (afterM t s k).enc, rfl⟩
        simp [bL, c1, c2]
      | false =>
        rw [hin] at c2
        have c5 := fd_put (w := wayOf st.1 s ++ [k]) hin hl
        have c6 : ∀ r, get r 2 = .ok (stL st'.2) → evS C wf (.app 2 (.var 5)) r = ((ev C (.var 5) r).toF r fun d => if (st'.2.map Sd.enc).length < LIM then .nx (put r 2 (.list (st'.2.map Sd.enc ++ [d]))) else .bad) := fun r hr => eS_app hr
        rw [stepS_new hin]
        refine ⟨_, _, rfl, .inl ?_, some (.int (k : Int)), some (afterM t s k).enc, rfl⟩
        simp [bL, c1, c2, c3, c4, c5]
        rw [c6 _ rfl]
        simp [hq, st_snoc])
  refine ⟨y4', y5', ?_⟩
  rw [e3] at e2
  rw [expand_S]
  simp only [eSs_c, eSs_n, eS_for_, evs_c, evs_n, ev_call, ev_var, get_z, get_s, R.bind_ok, e1, R.toF_ok, it_ns, e2, F.then_nx]
def bL2 : List MS := [.pop0 3 2, .for_ (.name 4) .plain [(.call "_law_open" [(.var 0), (.var 3)])] bL]
theorem whileL (TK : TalkOk L t) (X : Sx C L t "_law_open" "_law_after") (hU : (allSd L t).length < LIM) : ∀ (n m : Nat) (f g : Fd Sd) (q : List Sd) (y3 y4 y5 : Option D), m < n → RunN (nxS t) m f q g → SrOk L t (f, q) →
    ∃ y2' y3' y4' y5', whileN (fun r1 => (ev C (.lin 2) r1).bind tst) (fun r1 => evSs C wf bL2 r1) n [some (tkD t), some (fdD f), some (stL q), y3, y4, y5] = .nx [some (tkD t), some (fdD g), y2', y3', y4', y5'] := by
  intro n
  induction n with
  | zero => intro m f g q _ _ _ hm; omega
  | succ n ih =>
    intro m f g q y3 y4 y5 hm hr h
    simp only [whileN, ev_lin, get_s, get_z, R.bind_ok, tst_st, R.toF_ok]
    cases hr with
    | nil =>
      simp only [List.isEmpty_nil, Bool.not_true, Bool.false_eq_true, if_false]
      exact ⟨_, _, _, _, rfl⟩
    | cons hr =>
      rename_i m' s q'
      have h1 : SrOk L t (f, q') := ⟨h.fd, by have := h.q; simp at this ⊢; omega, fun a z => h.has a (.tail _ z)⟩
      have ha := h.has s (.head _)
      obtain ⟨y4', y5', e⟩ := inL (wf := wf) TK X hU h1 ha y4 y5
      have e0 : ∀ r, get r 2 = .ok (stL (s :: q')) → evS C wf (.pop0 3 2) r = .nx (put (put r 2 (stL q')) 3 s.enc) := fun r hr => eS_pop0 hr
      have ebody : evSs C wf bL2 [some (tkD t), some (fdD f), some (stL (s :: q')), y3, y4, y5] = .nx [some (tkD t), some (fdD (expand (nxS t) (f, q') s).1), some (stL (expand (nxS t) (f, q') s).2), some s.enc, y4', y5'] := by
        unfold bL2
        rw [eSs_c, e0 _ rfl, F.then_nx]
        exact e
      rw [ebody]
      simp only [List.isEmpty_cons, Bool.not_false, if_true, F.turn_nx]
      exact ih m' _ g _ _ _ _ (by omega) hr (exp_ok TK h1 ha).1
theorem lreach_run (TK : TalkOk L t) (X : Sx C L t "_law_open" "_law_after") (hb : C "_law_begun" [tkD t] = .ok (beginM t).enc) (hU : (allSd L t).length < LIM) {n : Nat} {g : Fd Sd} (hw : n < wf) (hr : RunN (nxS t) n [(beginM t, [])] [beginM t] g) :
    runF C wf Q.m__law_reach [tkD t] = .ok (fdD g) := by
  rw [run_ok rfl]
  have h0 : SrOk L t ([(beginM t, [])], [beginM t]) := by
    refine ⟨⟨by simp, fun p hp => ?_, fun p hp => ?_⟩, Nat.le_refl _, fun a ha => ?_⟩
    · rw [List.mem_singleton.mp hp]; exact begin_ok TK
    · rw [List.mem_singleton.mp hp]; simp
    · rw [List.mem_singleton.mp ha]; simp [ahas]
  obtain ⟨y2, y3, y4, y5, e⟩ := whileL (wf := wf) TK X hU wf n [(beginM t, [])] g [beginM t] none none none hw hr h0
  have hbody : Q.m__law_reach.body = [.setL 1 (.ddisp (.call "_law_begun" [.var 0]) (.tup [])), .setL 2 (.blt .list [.lin 1]), .while_ (.lin 2) bL2, .ret (.lin 1)] := rfl
  have hst : startE Q.m__law_reach [tkD t] = [some (tkD t), none, none, none, none, none] := rfl
  have c1 := fd_list (f := [(beginM t, [])])
  have c2 := fd_disp (s := beginM t)
  rw [hbody, hst]
  generalize bL2 = B at e ⊢
  simp only [List.map_cons, List.map_nil] at c1
  simp [-eS_while_, hb, c2, fd_one, c1]
  rw [eS_while_, e]
  simp
end
end BT
set_option Elab.async false
set_option linter.all false
set_option maxRecDepth 100000
set_option maxHeartbeats 4000000
/-! BTZ2: _law_after; reach and _law_reach as calls. -/
namespace BT
open PySem
theorem strsOf_map : ∀ l : List Str, strsOf (l.map .str) = some l
  | [] => rfl
  | x :: l => by
    show (strsOf (l.map .str)).map (x :: ·) = _
    rw [strsOf_map l]; rfl
theorem sortset_ok {l : List Str} (h : l.length < 64) : bltF .sortset [.list (l.map .str)] = .ok (.list (((dedupS l).mergeSort leS).map .str)) := by
  show ((R.ofO (strsOf (l.map .str))).bind fun ss => R.gd (decide (ss.length < 64)) (.ok (PyData.list (((dedupS ss).map PyData.str).mergeSort leD)))) = _
  rw [strsOf_map]
  show R.gd (decide (l.length < 64)) (.ok (PyData.list (((dedupS l).map PyData.str).mergeSort leD))) = _
  rw [decide_eq_true h, gd_true, List.map_mergeSort (r := leS) (s := leD) (f := (PyData.str : Str → D)) (fun a _ b _ => rfl)]
theorem lenset_ok {l : List Str} (h : l.length < 64) : bltF .lenset [.list (l.map .str)] = .ok (.int (dedupS l).length) := by
  show ((R.ofO (strsOf (l.map .str))).bind fun ss => R.gd (decide (ss.length < 64)) (.ok (PyData.int (dedupS ss).length))) = _
  rw [strsOf_map]
  show R.gd (decide (l.length < 64)) (.ok (PyData.int (dedupS l).length)) = _
  rw [decide_eq_true h, gd_true]
theorem sort_dd {l m : List Str} (h : m.Pairwise ltS) (hm : ∀ x, x ∈ m ↔ x ∈ l) : (dedupS l).mergeSort leS = m :=
  sort_eq leS_T (perm_nodup (h.imp fun h => h.2) (dedup_nodup l) fun x => (hm x).trans (dedup_mem l x).symm) (h.imp fun h => h.1) fun _ _ _ _ h1 h2 => leS_anti h1 h2
theorem sort_tk {l m : Bk} (h : m.Pairwise ltP) (hp : m.Perm l) : l.mergeSort leP = m :=
  sort_eq leP_T hp (h.imp fun h => h.1) fun _ _ _ _ h1 h2 => leP_anti h1 h2
section
variable {T : Tab} {wf k : Nat} {nat : CallF} {L : List Str} {t : Talk} {s : Sd}
theorem lafter_ok [Has T "_law_choices" Q.m__law_choices] [Has T "_law_done" Q.m__law_done] [Has T "_law_after" Q.m__law_after] (TK : TalkOk L t) (h : SdOk L t s) {j : Nat} (hj : j ∈ openAt t s) (hk : 2 ≤ k) : callN T wf nat k "_law_after" [tkD t, s.enc, .int (j : Int)] = .ok (afterM t s j).enc := by
  have hN := after_ok TK h hj
  obtain ⟨k, rfl⟩ : ∃ k', k = k' + 1 := ⟨k - 1, by omega⟩
  rw [call_has, run_ok rfl]
  obtain ⟨n, c, hp, hc, ho⟩ := openAt_mem.mp hj
  have e3 : afterM t s j = stepM s n j c := by unfold afterM; rw [hp]; simp only [hc]
  rw [e3] at hN ⊢
  obtain ⟨q, hq, hqt, hqn, hcq⟩ := chsAt_mem (List.mem_of_getElem? hc)
  have C := (TK.chs q hqt).2 c hcq
  have hd : ∀ d ∈ c.deeds, d.ok := fun d hd => (C.dds d hd).1
  have e2 := lchoices_ok (T := T) (wf := wf) (nat := nat) (t := t) (s := s) (k := k) (by omega)
  rw [hp] at e2
  have e4 := at_ch hc
  have e7 := ldone_ok (T := T) (wf := wf) (nat := nat) (k := k) (b := s.bk) (ds := c.deeds) (by have := h.bkLen TK; have := C.few; omega) (by omega)
  rw [ldone_eq h.good hd] at e7
  have a1 : ∀ r, asg (.tup [3, 4, 5, 6, 7]) c.enc r = .ok (put (put (put (put (put r 3 (.str c.line)) 4 (oT c.test)) 5 (ddD c.deeds)) 6 (oS c.goal)) 7 (.bool c.once)) := fun r => rfl
  have l1 : bltF .list [bnD s.been] = .ok (.list (s.been.map .str)) := rfl
  have l2 : bltF .list [bkD s.taken] = .ok (.list (s.taken.map pD)) := rfl
  have b5 : ∀ l : Bk, bltF .tuple [.list (l.map pD)] = .ok (bkD l) := fun l => rfl
  have b6 : ∀ l : List Str, bltF .tuple [.list (l.map .str)] = .ok (bnD l) := fun l => rfl
  have i1 : ∀ b : Bool, bltF .int [.bool b] = .ok (.int (if b then 1 else 0)) := fun b => rfl
  have m1 : ∀ (x : D), binF .mul (.list [x]) (.int 1) = .ok (.list [x]) := fun x => mul01 (c := True)
  have m0 : ∀ (x : D), binF .mul (.list [x]) (.int 0) = .ok (.list []) := fun x => mul01 (c := False)
  have hbl := h.beenLen TK
  have htl := h.tknLen TK
  have ad1 : ∀ g, binF .add (.list (s.been.map .str)) (.list [.str g]) = .ok (.list ((s.been ++ [g]).map .str)) := fun g => by
    rw [b_addL (by simp [LIM]; omega)]; simp
  have ad0 : binF .add (.list (s.been.map .str)) (.list []) = .ok (.list (s.been.map .str)) := by
    rw [b_addL (by simp [LIM]; omega)]; simp
  have at1' : binF .add (.list (s.taken.map pD)) (.list [.tuple [.str n, .int (j : Int)]]) = .ok (.list ((s.taken ++ [(n, (j : Int))]).map pD)) := by
    rw [b_addL (by simp [LIM]; omega)]; simp [pD]
  have at0' : binF .add (.list (s.taken.map pD)) (.list []) = .ok (.list (s.taken.map pD)) := by
    rw [b_addL (by simp [LIM]; omega)]; simp
  have key1 : ∃ l : List Str, ev (callN T wf nat k) (.blt .sortset [(.bin .add (.blt .list [(.idx (.var 1) (.int (2)))]) (.bin .mul (.lst [(.var 6)]) (.blt .int [(.cmp .isnot (.var 6) .non)])))]) [some (tkD t), some s.enc, some (.int (j : Int)), some (.str c.line), some (oT c.test), some (ddD c.deeds), some (oS c.goal), some (.bool c.once), none, none] = .ok (.list (l.map .str)) ∧ l = beenM s.been c.goal := by
    have hs : (beenM s.been c.goal).Pairwise ltS := hN.been
    cases hg : c.goal with
    | none =>
      have s1 := sortset_ok (l := s.been) (by omega)
      rw [sort_dd (m := s.been) h.been fun x => Iff.rfl] at s1
      exact ⟨s.been, by simp [sd_at2, l1, i1, m0, ad0, s1], rfl⟩
    | some g =>
      rw [hg] at hs
      have s1 := sortset_ok (l := s.been ++ [g]) (by simp; omega)
      have hm : ∀ x, x ∈ beenM s.been (some g) ↔ x ∈ s.been ++ [g] := fun x => by
        show x ∈ (if s.been.contains g then s.been else (s.been ++ [g]).mergeSort leS) ↔ _
        split
        · rename_i z
          have z : g ∈ s.been := by simpa using z
          rw [List.mem_append, List.mem_singleton]
          exact ⟨.inl, fun y => y.elim id fun e => e ▸ z⟩
        · exact (List.mergeSort_perm _ _).mem_iff
      rw [sort_dd hs hm] at s1
      exact ⟨_, by simp [-List.map_append, sd_at2, l1, i1, m1, ad1, s1], rfl⟩
  have key2 : ∃ l : Bk, (∀ y8, ev (callN T wf nat k) (.blt .sorted [(.bin .add (.blt .list [(.idx (.var 1) (.int (3)))]) (.bin .mul (.lst [(.tup [(.idx (.var 1) (.int (0))), (.var 2)])]) (.blt .int [(.var 7)])))]) [some (tkD t), some s.enc, some (.int (j : Int)), some (.str c.line), some (oT c.test), some (ddD c.deeds), some (oS c.goal), some (.bool c.once), y8, none] = .ok (.list (l.map pD))) ∧ l = (if c.once then (s.taken ++ [(n, (j : Int))]).mergeSort leP else s.taken) := by
    cases hon : c.once with
    | false =>
      have s1 := sort_bkL (h := s.taken)
      rw [sort_tk h.tkn (List.Perm.refl _)] at s1
      exact ⟨s.taken, fun y8 => by simp [sd_at3, sd_at0, hp, l2, i1, m0, at0', s1], rfl⟩
    | true =>
      have s1 := sort_bkL (h := s.taken ++ [(n, (j : Int))])
      exact ⟨_, fun y8 => by simp [-List.map_append, sd_at3, sd_at0, hp, l2, i1, m1, at1', s1], rfl⟩
  obtain ⟨l8, k1, k2⟩ := key1
  obtain ⟨l9, k3, k4⟩ := key2
  have e9 : (stepM s n j c).enc = .tuple [oS c.goal, bkD (doneM s.bk c.deeds), bnD l8, bkD l9] := by rw [k2, k4]; rfl
  have hbody : Q.m__law_after.body = [.unp [3, 4, 5, 6, 7] (.idx (.call "_law_choices" [(.var 0), (.var 1)]) (.var 2)), .set 8 (.blt .sortset [(.bin .add (.blt .list [(.idx (.var 1) (.int (2)))]) (.bin .mul (.lst [(.var 6)]) (.blt .int [(.cmp .isnot (.var 6) .non)])))]), .set 9 (.blt .sorted [(.bin .add (.blt .list [(.idx (.var 1) (.int (3)))]) (.bin .mul (.lst [(.tup [(.idx (.var 1) (.int (0))), (.var 2)])]) (.blt .int [(.var 7)])))]), Q.m__law_after.body.getD 3 .pass] := rfl
  rw [e9, hbody, show startE Q.m__law_after [tkD t, s.enc, .int (j : Int)] = [some (tkD t), some s.enc, some (.int (j : Int)), none, none, none, none, none, none, none] from rfl]
  generalize (M.blt .sortset [(.bin .add (.blt .list [(.idx (.var 1) (.int (2)))]) (.bin .mul (.lst [(.var 6)]) (.blt .int [(.cmp .isnot (.var 6) .non)])))]) = E1 at k1 ⊢
  generalize (M.blt .sorted [(.bin .add (.blt .list [(.idx (.var 1) (.int (3)))]) (.bin .mul (.lst [(.tup [(.idx (.var 1) (.int (0))), (.var 2)])]) (.blt .int [(.var 7)])))]) = E2 at k3 ⊢
  simp [Q.m__law_after, e2, e4, a1, k1, k3, sd_at1, e7, b5, b6]
section
variable [Has T "holds" Q.m_holds] [Has T "is_open" Q.m_is_open] [Has T "place_of" Q.m_place_of] [Has T "choices_at" Q.m_choices_at] [Has T "open_at" Q.m_open_at] [Has T "done" Q.m_done] [Has T "after" Q.m_after] [Has T "begun" Q.m_begun] [Has T "ways_from" Q.m_ways_from] [Has T "reach" Q.m_reach]
theorem waysFrom_ok (TK : TalkOk L t) (hU : (allSd L t).length < LIM) (hw : (allSd L t).length < wf) (hk : 8 ≤ k) {n : Nat} {g : Fd Sd} (hn : n ≤ (allSd L t).length) (hr : RunN (nxS t) n [(beginM t, [])] [beginM t] g) : callN T wf nat k "ways_from" [tkD t] = .ok (fdD g) := by
  obtain ⟨k, rfl⟩ : ∃ k', k = k' + 1 := ⟨k - 1, by omega⟩
  rw [call_has]
  exact waysFrom_run TK ⟨fun s h => openAt_ok TK h (by omega), fun s h j hj => after_runs TK h hj (by omega)⟩ (begun_ok TK.ne (by omega)) hU (Nat.lt_of_le_of_lt hn hw) hr
theorem reach_ok (TK : TalkOk L t) (hU : (allSd L t).length < LIM) (hw : (allSd L t).length < wf) (hk : 9 ≤ k) {n : Nat} {g : Fd Sd} (hn : n ≤ (allSd L t).length) (hr : RunN (nxS t) n [(beginM t, [])] [beginM t] g) : callN T wf nat k "reach" [tkD t] = .ok (.tuple ((g.map Prod.fst).map Sd.enc)) := by
  obtain ⟨k, rfl⟩ : ∃ k', k = k' + 1 := ⟨k - 1, by omega⟩
  rw [call_has, run_ok rfl]
  have e := waysFrom_ok (T := T) (nat := nat) (k := k) TK hU hw (by omega) hn hr
  simp [Q.m_reach, startE, e, fd_tuple]
end
theorem lreach_ok [Has T "_law_holds" Q.m__law_holds] [Has T "_law_choices" Q.m__law_choices] [Has T "_law_open" Q.m__law_open] [Has T "_law_done" Q.m__law_done] [Has T "_law_after" Q.m__law_after] [Has T "_law_begun" Q.m__law_begun] [Has T "_law_reach" Q.m__law_reach]
    (TK : TalkOk L t) (hU : (allSd L t).length < LIM) (hw : (allSd L t).length < wf) (hk : 6 ≤ k) {n : Nat} {g : Fd Sd} (hn : n ≤ (allSd L t).length) (hr : RunN (nxS t) n [(beginM t, [])] [beginM t] g) : callN T wf nat k "_law_reach" [tkD t] = .ok (fdD g) := by
  obtain ⟨k, rfl⟩ : ∃ k', k = k' + 1 := ⟨k - 1, by omega⟩
  rw [call_has]
  exact lreach_run TK ⟨fun s h => lopen_ok TK h (by omega), fun s h j hj => lafter_ok TK h hj (by omega)⟩ (lbegun_ok TK.ne (by omega)) hU (Nat.lt_of_le_of_lt hn hw) hr
end
/-- the bound for drawn talks -/
theorem drawn_small {m : Nat} {t : Talk} (h : Drawn m t) : (allSd XY t).length ≤ 5242880 := by
  have h4 : t.length ≤ 4 := by
    obtain ⟨m', h1, h2, h3, e⟩ := h.nm
    have : (names t).length = m' := by rw [e]; simp; omega
    simp only [names, List.length_map] at this
    omega
  have hc : (allCh t).length ≤ 12 := by
    unfold allCh
    refine Nat.le_trans (flat_len (n := 3) fun q hq => ?_) (by omega)
    rw [List.length_map, List.length_range]
    exact h.few q hq
  refine Nat.le_trans allSd_len ?_
  have e1 : 2 ^ t.length ≤ 2 ^ 4 := Nat.pow_le_pow_right (by decide) h4
  have e2 : 2 ^ (allCh t).length ≤ 2 ^ 12 := Nat.pow_le_pow_right (by decide) hc
  have e3 : 4 ^ XY.length = 16 := rfl
  rw [e3]
  exact Nat.mul_le_mul (by omega : t.length + 1 ≤ 5) (Nat.mul_le_mul (Nat.le_refl 16) (Nat.mul_le_mul e1 e2))
end BT
set_option Elab.async false
set_option linter.all false
set_option maxRecDepth 100000
set_option maxHeartbeats 4000000
/-! BTX2: what a search finds: all that is reached, each by its way. -/
namespace BT
open PySem
section
variable {α : Type} [DecidableEq α] {nx : α → List (Nat × α)}
theorem adds_has {w : List Nat} : ∀ {ps : List (Nat × α)} {st : Fd α × List α}, (∀ a, ahas st.1 a = true → ahas (ps.foldl (add1 w) st).1 a = true) ∧ (∀ p ∈ ps, ahas (ps.foldl (add1 w) st).1 p.2 = true) ∧ (∀ a ∈ st.2, a ∈ (ps.foldl (add1 w) st).2) ∧ (∀ a, ahas (ps.foldl (add1 w) st).1 a = true → ahas st.1 a = true ∨ a ∈ (ps.foldl (add1 w) st).2)
  | [], st => ⟨fun _ h => h, fun _ h => by simp at h, fun _ h => h, fun _ h => .inl h⟩
  | p :: ps, st => by
    rw [List.foldl_cons]
    obtain ⟨h1, h2, h3, h4⟩ := adds_has (ps := ps) (st := add1 w st p) (w := w)
    have k1 : ∀ a, ahas st.1 a = true → ahas (add1 w st p).1 a = true := fun a h => by
      unfold add1
      split
      · exact h
      · show ahas (st.1 ++ _) a = true
        rw [ahas_app, h]; rfl
    have k2 : ahas (add1 w st p).1 p.2 = true := by
      unfold add1
      split
      · assumption
      · show ahas (st.1 ++ _) p.2 = true
        rw [ahas_app]; simp [ahas]
    have k3 : ∀ a ∈ st.2, a ∈ (add1 w st p).2 := fun a h => by
      unfold add1
      split
      · exact h
      · exact List.mem_append_left _ h
    have k4 : ∀ a, ahas (add1 w st p).1 a = true → ahas st.1 a = true ∨ a ∈ (add1 w st p).2 := fun a h => by
      unfold add1 at h ⊢
      split at h
      · exact .inl h
      · rename_i hn
        rw [if_neg hn]
        have h : ahas (st.1 ++ [(p.2, w ++ [p.1])]) a = true := h
        rw [ahas_app, Bool.or_eq_true] at h
        rcases h with h | h
        · exact .inl h
        · have : p.2 = a := by simpa [ahas] using h
          rw [← this]
          exact .inr (List.mem_append_right _ (.head _))
    refine ⟨fun a h => h1 a (k1 a h), fun q hq => ?_, fun a h => h3 a (k3 a h), fun a h => ?_⟩
    · rcases List.mem_cons.mp hq with rfl | hq
      · exact h1 _ k2
      · exact h2 q hq
    · rcases h4 a h with z | z
      · rcases k4 a z with y | y
        · exact .inl y
        · exact .inr (h3 a y)
      · exact .inr z
theorem exp_has {st : Fd α × List α} {a : α} : (∀ b, ahas st.1 b = true → ahas (expand nx st a).1 b = true) ∧ (∀ p ∈ nx a, ahas (expand nx st a).1 p.2 = true) ∧ (∀ b ∈ st.2, b ∈ (expand nx st a).2) ∧ (∀ b, ahas (expand nx st a).1 b = true → ahas st.1 b = true ∨ b ∈ (expand nx st a).2) := adds_has
/-- what is found leads to what is found -/
theorem run_closed {n : Nat} {f g : Fd α} {q : List α} (h : RunN nx n f q g) : (∀ a, ahas f a = true → a ∈ q ∨ ∀ p ∈ nx a, ahas f p.2 = true) → (∀ a, ahas f a = true → ahas g a = true) ∧ ∀ a, ahas g a = true → ∀ p ∈ nx a, ahas g p.2 = true := by
  induction h with
  | nil =>
    intro hc
    exact ⟨fun _ h => h, fun a ha => (hc a ha).elim (fun z => nomatch z) id⟩
  | cons h ih =>
    rename_i n f g a q
    intro hc
    obtain ⟨k1, k2, k3, k4⟩ := exp_has (nx := nx) (st := (f, q)) (a := a)
    obtain ⟨i1, i2⟩ := ih fun b hb => by
      rcases k4 b hb with z | z
      · rcases hc b z with y | y
        · rcases List.mem_cons.mp y with rfl | y
          · exact .inr k2
          · exact .inl (k3 b y)
        · exact .inr fun p hp => k1 _ (y p hp)
      · exact .inl z
    exact ⟨fun b hb => i1 b (k1 b hb), i2⟩
/-- each with a way to it -/
theorem adds_ways {R : α → List Nat → Prop} {w : List Nat} : ∀ {ps : List (Nat × α)} {st : Fd α × List α}, (∀ p ∈ st.1, R p.1 p.2) → (∀ p ∈ ps, R p.2 (w ++ [p.1])) → ∀ p ∈ (ps.foldl (add1 w) st).1, R p.1 p.2
  | [], st, h, _ => h
  | p :: ps, st, h, hp => by
    rw [List.foldl_cons]
    refine adds_ways (fun q hq => ?_) fun q hq => hp q (.tail _ hq)
    unfold add1 at hq
    split at hq
    · exact h q hq
    · rcases List.mem_append.mp hq with z | z
      · exact h q z
      · rw [List.mem_singleton.mp z]; exact hp p (.head _)
theorem run_ways {R : α → List Nat → Prop} (step : ∀ a w, R a w → ∀ p ∈ nx a, R p.2 (w ++ [p.1])) {n : Nat} {f g : Fd α} {q : List α} (h : RunN nx n f q g) : (∀ p ∈ f, R p.1 p.2) → (∀ a ∈ q, ahas f a = true) → ∀ p ∈ g, R p.1 p.2 := by
  induction h with
  | nil => intro h _; exact h
  | cons h ih =>
    rename_i n f g a q
    intro hf hq
    obtain ⟨k1, k2, k3, k4⟩ := exp_has (nx := nx) (st := (f, q)) (a := a)
    obtain ⟨w, hw⟩ := has_look (hq a (.head _))
    have hwa : wayOf f a = w := by unfold wayOf; rw [hw]; rfl
    have hr : R a w := hf _ (alook_some hw)
    have hnew : ∀ p ∈ (expand nx (f, q) a).1, R p.1 p.2 := adds_ways (st := (f, q)) hf fun p hp => by rw [hwa]; exact step a w hr p hp
    refine ih hnew fun b hb => ?_
    have : b ∈ q ∨ ahas (expand nx (f, q) a).1 b = true := by
      have key : ∀ {ps : List (Nat × α)} {st : Fd α × List α}, ∀ b ∈ (ps.foldl (add1 (wayOf f a)) st).2, b ∈ st.2 ∨ ahas (ps.foldl (add1 (wayOf f a)) st).1 b = true := fun {ps} => by
        induction ps with
        | nil => intro st b hb; exact .inl hb
        | cons p ps ih2 =>
          intro st b hb
          rw [List.foldl_cons] at hb ⊢
          rcases ih2 b hb with z | z
          · unfold add1 at z
            split at z
            · exact .inl z
            · rename_i hn
              rcases List.mem_append.mp z with z | z
              · exact .inl z
              · rw [List.mem_singleton.mp z]
                refine .inr ((adds_has (ps := ps) (st := add1 (wayOf f a) st p) (w := wayOf f a)).1 _ ?_)
                unfold add1
                rw [if_neg hn]
                show ahas (st.1 ++ _) p.2 = true
                rw [ahas_app]; simp [ahas]
          · exact .inr z
      exact key (ps := nx a) (st := (f, q)) b hb
    rcases this with z | z
    · exact k1 b (hq b (.tail _ z))
    · exact z
end
/-- all that is reached, each by a way -/
theorem reach_all {L : List Str} {t : Talk} (TK : TalkOk L t) {n : Nat} {g : Fd Sd} (hr : RunN (nxS t) n [(beginM t, [])] [beginM t] g) :
    (∀ p ∈ g, goes t (beginM t) p.2 = some p.1) ∧ (∀ ks s, goes t (beginM t) ks = some s → ahas g s = true) := by
  have h1 := run_ways (R := fun a w => goes t (beginM t) w = some a) (fun a w hw p hp => by
    obtain ⟨k, hk, rfl⟩ := List.mem_map.mp hp
    exact goes_snoc hw hk) hr (fun p hp => by rw [List.mem_singleton.mp hp]; rfl) fun a ha => by rw [List.mem_singleton.mp ha]; simp [ahas]
  obtain ⟨k1, k2⟩ := run_closed hr fun a ha => .inl (by
    have : beginM t = a := by simpa [ahas] using ha
    rw [← this]; exact .head _)
  have hb : ahas g (beginM t) = true := k1 _ (by simp [ahas])
  have key : ∀ ks (s0 s : Sd), ahas g s0 = true → goes t s0 ks = some s → ahas g s = true := fun ks => by
    induction ks with
    | nil => intro s0 s h0 h; injection h with h; rw [← h]; exact h0
    | cons k ks ih =>
      intro s0 s h0 h
      have h : (if k ∈ openAt t s0 then goes t (afterM t s0 k) ks else none) = some s := h
      split at h
      · rename_i hk
        exact ih _ s (k2 s0 h0 (k, afterM t s0 k) (List.mem_map.mpr ⟨k, hk, rfl⟩)) h
      · cases h
  exact ⟨h1, fun ks s h => key ks _ s hb h⟩
end BT
set_option Elab.async false
set_option linter.all false
set_option maxRecDepth 100000
set_option maxHeartbeats 4000000
/-! BTX3: ways that never come to a place. -/
namespace BT
open PySem
theorem been_step {s : Sd} {n : Str} {k : Nat} {c : Ch} {m : Str} : m ∈ (stepM s n k c).been ↔ m ∈ s.been ∨ c.goal = some m := by
  show m ∈ beenM s.been c.goal ↔ _
  cases c.goal with
  | none => simp [beenM]
  | some g =>
    show m ∈ (if s.been.contains g then s.been else (s.been ++ [g]).mergeSort leS) ↔ _
    split
    · rename_i z
      have z : g ∈ s.been := by simpa using z
      constructor
      · exact .inl
      · rintro (y | y)
        · exact y
        · injection y with y; rw [← y]; exact z
    · rw [(List.mergeSort_perm _ _).mem_iff, List.mem_append, List.mem_singleton, Option.some.injEq]
      exact or_congr Iff.rfl eq_comm
theorem after_been {t : Talk} {s : Sd} {k : Nat} (hk : k ∈ openAt t s) (m : Str) : m ∈ (afterM t s k).been ↔ m ∈ s.been ∨ (afterM t s k).pl = some m := by
  obtain ⟨n, c, hp, hc, _⟩ := openAt_mem.mp hk
  have e : afterM t s k = stepM s n k c := by unfold afterM; rw [hp]; simp only [hc]
  rw [e, been_step]
  rfl
theorem been_mono {t : Talk} : ∀ {ks : List Nat} {s s2 : Sd}, goes t s ks = some s2 → ∀ m ∈ s.been, m ∈ s2.been
  | [], s, s2, h, m, hm => by injection h with h; rw [← h]; exact hm
  | k :: ks, s, s2, h, m, hm => by
    have h : (if k ∈ openAt t s then goes t (afterM t s k) ks else none) = some s2 := h
    split at h
    · rename_i hk
      exact been_mono h m ((after_been hk m).2 (.inl hm))
    · cases h
/-- reached by a way that does not go on from p -/
inductive Av (t : Talk) (p : Str) : Sd → Prop
  | base : Av t p (beginM t)
  | step {s : Sd} {k : Nat} : Av t p s → s.pl ≠ some p → k ∈ openAt t s → Av t p (afterM t s k)
theorem Av.goes {t : Talk} {p : Str} {s : Sd} (h : Av t p s) : ∃ ks, goes t (beginM t) ks = some s := by
  induction h with
  | base => exact ⟨[], rfl⟩
  | step _ _ hk ih =>
    obtain ⟨ks, e⟩ := ih
    exact ⟨_, goes_snoc e hk⟩
theorem Av.been {t : Talk} {p : Str} (h0 : p ∉ (beginM t).been) {s : Sd} (h : Av t p s) : p ∈ s.been → s.pl = some p := by
  induction h with
  | base => intro z; exact absurd z h0
  | step _ hn hk ih =>
    intro z
    rcases (after_been hk p).1 z with y | y
    · exact absurd (ih y) hn
    · exact y
theorem av_of {L : List Str} {t : Talk} {p : Str} (TK : TalkOk L t) : ∀ {ks : List Nat} {s0 s : Sd}, SdOk L t s0 → Av t p s0 → goes t s0 ks = some s → p ∉ s.been → Av t p s
  | [], s0, s, _, h, e, _ => by injection e with e; rw [← e]; exact h
  | k :: ks, s0, s, ok, h, e, hp => by
    have e' : (if k ∈ openAt t s0 then BT.goes t (afterM t s0 k) ks else none) = some s := e
    split at e'
    · rename_i hk
      refine av_of TK (after_ok TK ok hk) (.step h (fun z => ?_) hk) e' hp
      exact hp (been_mono e p (ok.pl p z))
    · cases e'
/-- some way ends that never comes to p: two readings -/
theorem av_end {L : List Str} {t : Talk} {p : Str} (TK : TalkOk L t) (h0 : p ∉ (beginM t).been) : (∃ s, Av t p s ∧ s.pl = none) ↔ ∃ ks s, goes t (beginM t) ks = some s ∧ s.pl = none ∧ p ∉ s.been := by
  constructor
  · rintro ⟨s, h, e⟩
    obtain ⟨ks, hk⟩ := h.goes
    exact ⟨ks, s, hk, e, fun z => by rw [h.been h0 z] at e; cases e⟩
  · rintro ⟨ks, s, hk, e, hp⟩
    exact ⟨s, av_of TK (begin_ok TK) .base hk hp, e⟩
/-- .. by what the search found -/
theorem end_found {L : List Str} {t : Talk} (TK : TalkOk L t) {n : Nat} {g : Fd Sd} (hr : RunN (nxS t) n [(beginM t, [])] [beginM t] g) (P : Sd → Prop) : (∃ ks s, goes t (beginM t) ks = some s ∧ P s) ↔ ∃ q ∈ g, P q.1 := by
  obtain ⟨h1, h2⟩ := reach_all TK hr
  constructor
  · rintro ⟨ks, s, hk, hp⟩
    obtain ⟨q, hq, e⟩ := List.mem_map.mp (ahas_iff.mp (h2 ks s hk))
    exact ⟨q, hq, by rw [e]; exact hp⟩
  · rintro ⟨q, hq, hp⟩
    exact ⟨q.2, q.1, h1 q hq, hp⟩
end BT
set_option Elab.async false
set_option linter.all false
set_option maxRecDepth 100000
set_option maxHeartbeats 4000000
/-! BTX4: the law's search that avoids a place. -/
namespace BT
open PySem
def sD (l : List Sd) : D := .dict (dE Sd.enc (fun (_ : Unit) => PyData.bool true) (l.map fun s => (s, ())))
theorem s_fits {l : List Sd} {s : Sd} : keyFits (dE Sd.enc (fun (_ : Unit) => PyData.bool true) (l.map fun s => (s, ()))) s.enc = true := by
  show (shal 8 s.enc && nolist s.enc && (dE Sd.enc (fun (_ : Unit) => PyData.bool true) (l.map fun s => (s, ()))).all fun kv => isTupD kv.1) = true
  rw [shal_sd (n := 5), nolist_sd]
  simp only [Bool.and_self, Bool.true_and, dE, List.all_map, List.all_eq_true]
  intro p _
  rfl
theorem s_has {l : List Sd} {s : Sd} : ahas (l.map fun s => (s, ())) s = decide (s ∈ l) := by
  rw [Bool.eq_iff_iff, ahas_iff, decide_eq_true_eq, List.map_map]
  simp [Function.comp_def]
theorem s_nin {l : List Sd} {s : Sd} : cmpF .notin s.enc (sD l) = .ok (!decide (s ∈ l)) := by
  rw [c_nin]
  show (R.gd (keyFits (dE Sd.enc (fun (_ : Unit) => PyData.bool true) (l.map fun s => (s, ()))) s.enc) (.ok (dfind (dE Sd.enc (fun (_ : Unit) => PyData.bool true) (l.map fun s => (s, ()))) s.enc).isSome)).bind _ = _
  rw [s_fits, gd_true, dfind_E sd_eqv, R.bind_ok, Option.isSome_map, alook_isSome, s_has]
theorem s_put {l : List Sd} {s : Sd} (h : s ∉ l) (hl : l.length < LIM) : putF (sD l) s.enc (.bool true) = .ok (sD (l ++ [s])) := by
  show R.gd (keyFits (dE Sd.enc (fun (_ : Unit) => PyData.bool true) (l.map fun s => (s, ()))) s.enc && decide ((dE Sd.enc (fun (_ : Unit) => PyData.bool true) (l.map fun s => (s, ()))).length < LIM)) (.ok (PyData.dict (dput (dE Sd.enc (fun (_ : Unit) => PyData.bool true) (l.map fun s => (s, ()))) s.enc ((fun (_ : Unit) => PyData.bool true) ())))) = _
  rw [s_fits, dput_E sd_eqv]
  have e0 : (dE Sd.enc (fun (_ : Unit) => PyData.bool true) (l.map fun s => (s, ()))).length = l.length := by simp [dE]
  rw [e0, decide_eq_true hl]
  have e : aput (l.map fun s => (s, ())) s () = (l ++ [s]).map fun s => (s, ()) := by
    unfold aput
    rw [s_has, decide_eq_false h]
    simp
  rw [e]; rfl
theorem open_few {L : List Str} {t : Talk} {s : Sd} (TK : TalkOk L t) : (openAt t s).length ≤ 20 := by
  unfold openAt
  cases hp : s.pl with
  | none => simp
  | some n =>
    simp only [List.length_map]
    refine Nat.le_trans (List.length_filter_le _ _) ?_
    rw [List.length_zipIdx]
    show (((plOf t n).map Pl.chs).getD []).length ≤ 20
    cases e : plOf t n with
    | none => simp
    | some q => exact (TK.chs q (List.mem_of_find?_eq_some e)).1
/-- the search's ground -/
structure DfOk (L : List Str) (t : Talk) (p : Str) (left seen : List Sd) : Prop where
  av : ∀ s ∈ left, Av t p s
  nd : seen.Nodup
  sav : ∀ s ∈ seen, Av t p s ∧ s.pl ≠ some p ∧ s.pl ≠ none
  beg : beginM t ∈ seen ∨ beginM t ∈ left ∨ (beginM t).pl = some p
  cl : ∀ s ∈ seen, ∀ k ∈ openAt t s, afterM t s k ∈ seen ∨ afterM t s k ∈ left ∨ (afterM t s k).pl = some p
theorem Av.ok {L : List Str} {t : Talk} {p : Str} {s : Sd} (TK : TalkOk L t) (h : Av t p s) : SdOk L t s := by
  obtain ⟨ks, e⟩ := h.goes
  exact goes_ok TK (begin_ok TK) e
theorem DfOk.done {L : List Str} {t : Talk} {p : Str} {seen : List Sd} (h : DfOk L t p [] seen) : ¬ ∃ s, Av t p s ∧ s.pl = none := by
  rintro ⟨s, ha, hn⟩
  have key : ∀ s, Av t p s → s ∈ seen ∨ s.pl = some p := fun s ha => by
    induction ha with
    | base => exact h.beg.imp id fun z => z.elim (fun y => nomatch y) id
    | step _ hne hk ih =>
      rcases ih with z | z
      · exact (h.cl _ z _ hk).imp id fun y => y.elim (fun y => nomatch y) id
      · exact absurd z hne
  rcases key s ha with z | z
  · exact (h.sav s z).2.2 hn
  · rw [hn] at z; cases z
theorem DfOk.few {L : List Str} {t : Talk} {p : Str} {left seen : List Sd} (TK : TalkOk L t) (h : DfOk L t p left seen) : seen.length ≤ (allSd L t).length := nodup_le h.nd fun s hs => allSd_mem ((h.sav s hs).1.ok TK)
/-- one step that finds a new stand -/
theorem DfOk.new {L : List Str} {t : Talk} {p : Str} {left seen : List Sd} {s : Sd} (h : DfOk L t p (left ++ [s]) seen) (hs : s ∉ seen) (hp : s.pl ≠ some p) (hn : s.pl ≠ none) : DfOk L t p (left ++ (openAt t s).map fun k => afterM t s k) (seen ++ [s]) where
  av := fun x hx => by
    rcases List.mem_append.mp hx with z | z
    · exact h.av x (List.mem_append_left _ z)
    · obtain ⟨k, hk, rfl⟩ := List.mem_map.mp z
      exact .step (h.av s (List.mem_append_right _ (.head _))) hp hk
  nd := by
    rw [List.nodup_append]
    refine ⟨h.nd, by simp, fun a ha b hb e => ?_⟩
    rw [List.mem_singleton.mp hb] at e
    exact hs (e ▸ ha)
  sav := fun x hx => by
    rcases List.mem_append.mp hx with z | z
    · exact h.sav x z
    · rw [List.mem_singleton.mp z]
      exact ⟨h.av s (List.mem_append_right _ (.head _)), hp, hn⟩
  beg := by
    rcases h.beg with z | z | z
    · exact .inl (List.mem_append_left _ z)
    · rcases List.mem_append.mp z with y | y
      · exact .inr (.inl (List.mem_append_left _ y))
      · rw [List.mem_singleton.mp y]; exact .inl (List.mem_append_right _ (.head _))
    · exact .inr (.inr z)
  cl := fun x hx k hk => by
    rcases List.mem_append.mp hx with z | z
    · rcases h.cl x z k hk with y | y | y
      · exact .inl (List.mem_append_left _ y)
      · rcases List.mem_append.mp y with u | u
        · exact .inr (.inl (List.mem_append_left _ u))
        · rw [List.mem_singleton.mp u]; exact .inl (List.mem_append_right _ (.head _))
      · exact .inr (.inr y)
    · rw [List.mem_singleton.mp z] at hk ⊢
      exact .inr (.inl (List.mem_append_right _ (List.mem_map.mpr ⟨k, hk, rfl⟩)))
/-- one step that finds nothing new -/
theorem DfOk.old {L : List Str} {t : Talk} {p : Str} {left seen : List Sd} {s : Sd} (h : DfOk L t p (left ++ [s]) seen) (hs : s ∈ seen ∨ s.pl = some p) : DfOk L t p left seen where
  av := fun x hx => h.av x (List.mem_append_left _ hx)
  nd := h.nd
  sav := h.sav
  beg := by
    rcases h.beg with z | z | z
    · exact .inl z
    · rcases List.mem_append.mp z with y | y
      · exact .inr (.inl y)
      · rw [List.mem_singleton.mp y]; exact hs.imp id .inr
    · exact .inr (.inr z)
  cl := fun x hx k hk => by
    rcases h.cl x hx k hk with y | y | y
    · exact .inl y
    · rcases List.mem_append.mp y with u | u
      · exact .inr (.inl u)
      · rw [List.mem_singleton.mp u]; exact hs.imp id .inr
    · exact .inr (.inr y)
end BT
set_option Elab.async false
set_option linter.all false
/-! BTDf: shared functions, compiled (printed by shared.py) -/
namespace BT.Q
open BT PySem
def m_ends : MFun := ⟨1, 3, [], [
  .set 1 (.lc [2] (.name 2) .plain [(.call "reach" [(.var 0)])] (.cmp .is_ (.idx (.var 2) (.int (0))) .non) (.var 2)),
  .iff (.nt (.var 1)) [
    .raise "NoWay"] [],
  .ret (.var 1)]⟩
def m_must_pass : MFun := ⟨2, 3, [], [
  .ret (.blt .all [(.lc [2] (.name 2) .plain [(.call "ends" [(.var 0)])] (.bl true) (.cmp .isin (.var 1) (.idx (.var 2) (.int (2)))))])]⟩
def m_passed : MFun := ⟨1, 4, [], [
  .set 1 (.call "ends" [(.var 0)]),
  .ret (.blt .tuple [(.lc [2] (.name 2) .plain [(.var 0)] (.blt .all [(.lc [3] (.name 3) .plain [(.var 1)] (.bl true) (.cmp .isin (.idx (.var 2) (.int (0))) (.idx (.var 3) (.int (2)))))]) (.idx (.var 2) (.int (0))))])]⟩
def m__law_ends_without : MFun := ⟨2, 6, [2, 3], [
  .iff (.cmp .eq (.idx (.idx (.var 0) (.int (0))) (.int (0))) (.var 1)) [
    .ret (.bl false)] [],
  .setL 2 (.lst [(.call "_law_begun" [(.var 0)])]),
  .setL 3 .dnew,
  .while_ (.lin 2) [
    .popTo 4 2,
    .iff (.cmp .is_ (.idx (.var 4) (.int (0))) .non) [
      .ret (.bl true)] [],
    .iff (.and (.cmp .notin (.var 4) (.lin 3)) (.cmp .ne (.idx (.var 4) (.int (0))) (.var 1))) [
      .put 3 (.var 4) (.bl true),
      .ext 2 (.lc [5] (.name 5) .plain [(.call "_law_open" [(.var 0), (.var 4)])] (.bl true) (.call "_law_after" [(.var 0), (.var 4), (.var 5)]))] []],
  .ret (.bl false)]⟩
end BT.Q
set_option Elab.async false
set_option linter.all false
set_option maxRecDepth 100000
set_option maxHeartbeats 4000000
/-! BTX5: _law_ends_without, evaluated. -/
namespace BT
open PySem
def lcW : M := .lc [5] (.name 5) .plain [(.call "_law_open" [(.var 0), (.var 4)])] (.bl true) (.call "_law_after" [(.var 0), (.var 4), (.var 5)])
def bD : List MS := [.popTo 4 2, .iff (.cmp .is_ (.idx (.var 4) (.int (0))) .non) [.ret (.bl true)] [],
    .iff (.and (.cmp .notin (.var 4) (.lin 3)) (.cmp .ne (.idx (.var 4) (.int (0))) (.var 1))) [.put 3 (.var 4) (.bl true), .ext 2 lcW] []]
section
variable {C : CallF} {L : List Str} {t : Talk} {p : Str} {wf : Nat}
theorem lcW_ok (X : Sx C L t "_law_open" "_law_after") {s : Sd} (h : SdOk L t s) (y1 y2 y3 y5 : Option D) : ev C lcW [some (tkD t), y1, y2, y3, some s.enc, y5] = .ok (stL ((openAt t s).map fun k => afterM t s k)) := by
  have e1 := X.op s h
  have e2 : lcM (fun k : Nat => (C "_law_after" [tkD t, s.enc, .int (k : Int)]).bind fun y => R.ok (some y)) (openAt t s) = .ok (((openAt t s).map fun k => afterM t s k).map Sd.enc) := by
    rw [List.map_map, ← lcM_all]
    exact lcM_congr fun k hk => by rw [X.af s h k hk]; rfl
  unfold lcW
  simp [e1, it_ns, lcN_M]
  rw [e2]
  rfl
theorem whileD (TK : TalkOk L t) (X : Sx C L t "_law_open" "_law_after") : ∀ (n : Nat) (left seen : List Sd) (y4 y5 : Option D), left.length + 21 * ((allSd L t).length - seen.length) < n → DfOk L t p left seen → left.length + 20 * ((allSd L t).length - seen.length) + (allSd L t).length < LIM →
    ((∃ s, Av t p s ∧ s.pl = none) ∧ whileN (fun r1 => (ev C (.lin 2) r1).bind tst) (fun r1 => evSs C wf bD r1) n [some (tkD t), some (.str p), some (stL left), some (sD seen), y4, y5] = .rt (.bool true)) ∨
    ((¬ ∃ s, Av t p s ∧ s.pl = none) ∧ ∃ r', whileN (fun r1 => (ev C (.lin 2) r1).bind tst) (fun r1 => evSs C wf bD r1) n [some (tkD t), some (.str p), some (stL left), some (sD seen), y4, y5] = .nx r') := by
  intro n
  induction n with
  | zero => intro left seen _ _ hm; omega
  | succ n ih =>
    intro left seen y4 y5 hm h hB
    simp only [whileN, ev_lin, get_s, get_z, R.bind_ok, tst_st, R.toF_ok]
    rcases List.eq_nil_or_concat left with rfl | ⟨left', s, rfl⟩
    · simp only [List.isEmpty_nil, Bool.not_true, Bool.false_eq_true, if_false]
      exact .inr ⟨h.done, _, rfl⟩
    · rw [List.concat_eq_append] at *
      have hne : (left' ++ [s]).isEmpty = false := by simp
      have has := h.av s (List.mem_append_right _ (.head _))
      have hso := has.ok TK
      have e0 : ∀ r, get r 2 = .ok (stL (left' ++ [s])) → evS C wf (.popTo 4 2) r = .nx (put (put r 2 (stL left')) 4 s.enc) := fun r hr => eS_pop (by rw [hr]; simp [stL])
      have hlen : (left' ++ [s]).length = left'.length + 1 := by simp
      rw [hne]
      simp only [Bool.not_false, if_true]
      cases hp : s.pl with
      | none =>
        refine .inl ⟨⟨s, has, hp⟩, ?_⟩
        have eb : evSs C wf bD [some (tkD t), some (.str p), some (stL (left' ++ [s])), some (sD seen), y4, y5] = .rt (.bool true) := by
          unfold bD
          rw [eSs_c, e0 _ rfl]
          simp [sd_at0, hp]
        rw [eb]; rfl
      | some m =>
        by_cases hnew : s ∉ seen ∧ m ≠ p
        · have hd := h.new hnew.1 (by rw [hp]; intro z; injection z with z; exact hnew.2 z) (by rw [hp]; intro z; cases z)
          have hf := open_few (s := s) TK
          have hfew := hd.few TK
          simp only [List.length_append, List.length_singleton] at hfew
          have hsl : seen.length < LIM := by omega
          have n1 := s_nin (l := seen) (s := s)
          rw [decide_eq_false hnew.1] at n1
          have n2 := s_put hnew.1 hsl
          have n3 : cmpF .ne (.str m) (.str p) = .ok true := by simp [hnew.2]
          have el := lcW_ok X hso (some (.str p)) (some (stL left')) (some (sD (seen ++ [s]))) y5
          have ll : left'.length + (openAt t s).length ≤ LIM := by rw [hlen] at hB; omega
          have eb : evSs C wf bD [some (tkD t), some (.str p), some (stL (left' ++ [s])), some (sD seen), y4, y5] = .nx [some (tkD t), some (.str p), some (stL (left' ++ (openAt t s).map fun k => afterM t s k)), some (sD (seen ++ [s])), some s.enc, y5] := by
            have ex : evS C wf (.ext 2 lcW) [some (tkD t), some (.str p), some (stL left'), some (sD (seen ++ [s])), some s.enc, y5] = .nx [some (tkD t), some (.str p), some (stL (left' ++ (openAt t s).map fun k => afterM t s k)), some (sD (seen ++ [s])), some s.enc, y5] := by
              rw [eS_ext (xs := left'.map Sd.enc) (ys := ((openAt t s).map fun k => afterM t s k).map Sd.enc) rfl el, if_pos (by simpa using ll)]
              simp [stL]
            unfold bD
            generalize lcW = LW at ex ⊢
            rw [eSs_c, e0 _ rfl]
            simp [sd_at0, hp, n1, n2, n3]
            rw [ex]
            rfl
          rw [eb]
          simp only [F.turn_nx]
          refine ih _ _ _ _ ?_ hd ?_
          · simp only [List.length_append, List.length_map, List.length_singleton] at hm ⊢
            omega
          · simp only [List.length_append, List.length_map, List.length_singleton] at hB ⊢
            omega
        · have hold : s ∈ seen ∨ s.pl = some p := by
            by_cases h1 : s ∈ seen
            · exact .inl h1
            · refine .inr ?_
              rw [hp]
              by_cases h2 : m = p
              · rw [h2]
              · exact absurd ⟨h1, h2⟩ hnew
          have hd := h.old hold
          have n1 := s_nin (l := seen) (s := s)
          have n3 : cmpF .ne (.str m) (.str p) = .ok (!(m == p)) := c_neS
          have eb : evSs C wf bD [some (tkD t), some (.str p), some (stL (left' ++ [s])), some (sD seen), y4, y5] = .nx [some (tkD t), some (.str p), some (stL left'), some (sD seen), some s.enc, y5] := by
            unfold bD
            rw [eSs_c, e0 _ rfl]
            by_cases h1 : s ∈ seen
            · simp [sd_at0, hp, n1, h1]
            · have h2 : m = p := by
                by_cases h2 : m = p
                · exact h2
                · exact absurd ⟨h1, h2⟩ hnew
              subst h2
              simp [sd_at0, hp, n1, h1]
          rw [eb]
          simp only [F.turn_nx]
          refine ih _ _ _ _ ?_ hd ?_
          · simp only [List.length_append, List.length_singleton] at hm
            omega
          · simp only [List.length_append, List.length_singleton] at hB
            omega
/-- what _law_ends_without tells -/
theorem without_run (TK : TalkOk L t) (X : Sx C L t "_law_open" "_law_after") (hb : C "_law_begun" [tkD t] = .ok (beginM t).enc) (hU : 22 * (allSd L t).length + 1 < LIM) (hw : 22 * (allSd L t).length + 1 < wf) :
    ∃ b : Bool, runF C wf Q.m__law_ends_without [tkD t, .str p] = .ok (.bool b) ∧ (b = true ↔ ∃ ks s, goes t (beginM t) ks = some s ∧ s.pl = none ∧ p ∉ s.been) := by
  rw [run_ok rfl]
  obtain ⟨q, t', ht⟩ : ∃ q t', t = q :: t' := by
    cases t with
    | nil => exact absurd rfl TK.ne
    | cons q t' => exact ⟨q, t', rfl⟩
  have e0 : idxF (tkD t) (.int 0) = .ok q.enc := by rw [ht]; show R.ofO (atOf (q.enc :: _) 0) = _; rw [at0]; rfl
  have hbn : (beginM t).been = [q.name] := by rw [ht]; rfl
  have hbp : (beginM t).pl = some q.name := by rw [ht]; rfl
  have hbody : Q.m__law_ends_without.body = [.iff (.cmp .eq (.idx (.idx (.var 0) (.int (0))) (.int (0))) (.var 1)) [.ret (.bl false)] [], .setL 2 (.lst [(.call "_law_begun" [(.var 0)])]), .setL 3 .dnew, .while_ (.lin 2) bD, .ret (.bl false)] := rfl
  have hst : startE Q.m__law_ends_without [tkD t, .str p] = [some (tkD t), some (.str p), none, none, none, none] := rfl
  rw [hbody, hst]
  by_cases hq : q.name = p
  · refine ⟨false, ?_, ?_⟩
    · generalize bD = B
      simp [e0, pl_at0, hq]
    · constructor
      · intro z; cases z
      · rintro ⟨ks, s, hk, hn, hp⟩
        exact absurd (been_mono hk p (by rw [hbn, hq]; exact .head _)) hp
  · have h0 : p ∉ (beginM t).been := by rw [hbn]; simpa using fun z => hq z.symm
    have hd : DfOk L t p [beginM t] [] := ⟨fun s hs => by rw [List.mem_singleton.mp hs]; exact .base, List.nodup_nil, (fun s hs => by simp at hs), .inr (.inl (.head _)), (fun s hs => by simp at hs)⟩
    have hne : (q.name == p) = false := by simpa using hq
    have e1 : PyData.list [(beginM t).enc] = stL [beginM t] := rfl
    have e2 : PyData.dict [] = sD [] := rfl
    rw [← av_end TK h0]
    rcases whileD (wf := wf) TK X wf [beginM t] [] none none (by simp; omega) hd (by simp; omega) with ⟨h1, e⟩ | ⟨h1, r', e⟩
    · refine ⟨true, ?_, fun _ => h1, fun _ => rfl⟩
      generalize bD = B at e ⊢
      simp [-eS_while_, e0, pl_at0, hne, hb, e1, e2]
      rw [eS_while_, e]
      rfl
    · refine ⟨false, ?_, fun z => (by cases z), fun z => absurd z h1⟩
      generalize bD = B at e ⊢
      simp [-eS_while_, e0, pl_at0, hne, hb, e1, e2]
      rw [eS_while_, e]
      simp
end
end BT
set_option Elab.async false
set_option linter.all false
set_option maxRecDepth 100000
set_option maxHeartbeats 4000000
/-! BTR: the ways of a search rise. -/
namespace BT
open PySem
/-- less, at the first place that differs -/
def lexN : List Nat → List Nat → Prop
  | a :: as, b :: bs => a < b ∨ (a = b ∧ lexN as bs)
  | _, _ => False
def wlt (a b : List Nat) : Prop := a.length < b.length ∨ (a.length = b.length ∧ lexN a b)
theorem lexN_app {c d : List Nat} : ∀ {a b : List Nat}, lexN a b → lexN (a ++ c) (b ++ d)
  | [], _, h => h.elim
  | _ :: _, [], h => h.elim
  | x :: a, y :: b, h => h.imp id fun h => ⟨h.1, lexN_app h.2⟩
theorem lexN_snoc {k j : Nat} (h : k < j) : ∀ {w : List Nat}, lexN (w ++ [k]) (w ++ [j])
  | [] => .inl h
  | _ :: w => .inr ⟨rfl, lexN_snoc h (w := w)⟩
theorem wlt_snoc {a b : List Nat} {k j : Nat} (h : wlt a b) : wlt (a ++ [k]) (b ++ [j]) := by
  unfold wlt at h ⊢
  simp only [List.length_append, List.length_singleton]
  rcases h with h | ⟨h1, h2⟩
  · left; omega
  · right; exact ⟨by omega, lexN_app h2⟩
theorem wlt_last {w : List Nat} {k j : Nat} (h : k < j) : wlt (w ++ [k]) (w ++ [j]) := .inr ⟨by simp, lexN_snoc h⟩
theorem wlt_nil {w : List Nat} {k : Nat} : wlt [] (w ++ [k]) := .inl (by simp)
section
variable {α : Type} [DecidableEq α] {nx : α → List (Nat × α)}
structure RiOk (f1 f2 : Fd α) : Prop where
  pw : ((f1 ++ f2).map Prod.snd).Pairwise wlt
  par : ∀ p ∈ f1 ++ f2, p.2 = [] ∨ ∃ p' ∈ f1, ∃ k, p.2 = p'.2 ++ [k]
theorem adds_rise {w : List Nat} {a : α} {f1 : Fd α} (ha : (a, w) ∈ f1) : ∀ {ps : List (Nat × α)} {st : Fd α × List α} {f2 : Fd α}, st.1 = f1 ++ f2 → st.2 = f2.map Prod.fst → RiOk f1 f2 → (ps.map Prod.fst).Pairwise (· < ·) → (∀ p ∈ f1 ++ f2, ∀ x ∈ ps, wlt p.2 (w ++ [x.1])) →
    ∃ f2', (ps.foldl (add1 w) st).1 = f1 ++ f2' ∧ (ps.foldl (add1 w) st).2 = f2'.map Prod.fst ∧ RiOk f1 f2'
  | [], st, f2, h1, h2, h3, _, _ => ⟨f2, h1, h2, h3⟩
  | x :: ps, st, f2, h1, h2, h3, h4, h5 => by
    rw [List.foldl_cons]
    rw [List.map_cons, List.pairwise_cons] at h4
    by_cases c : ahas st.1 x.2 = true
    · have e : add1 w st x = st := by unfold add1; rw [if_pos c]
      rw [e]
      exact adds_rise ha h1 h2 h3 h4.2 fun p hp y hy => h5 p hp y (.tail _ hy)
    · have e : add1 w st x = (st.1 ++ [(x.2, w ++ [x.1])], st.2 ++ [x.2]) := by unfold add1; rw [if_neg c]
      rw [e]
      refine adds_rise ha (f2 := f2 ++ [(x.2, w ++ [x.1])]) (by rw [h1, List.append_assoc]) (by rw [h2]; simp) ⟨?_, fun p hp => ?_⟩ h4.2 fun p hp y hy => ?_
      · rw [← List.append_assoc, List.map_append, List.pairwise_append]
        refine ⟨h3.pw, by simp, fun u hu v hv => ?_⟩
        obtain ⟨p, hp, rfl⟩ := List.mem_map.mp hu
        have : v = w ++ [x.1] := by simpa using hv
        rw [this]
        exact h5 p hp x (.head _)
      · rw [← List.append_assoc] at hp
        rcases List.mem_append.mp hp with z | z
        · exact h3.par p z
        · rw [List.mem_singleton.mp z]; exact .inr ⟨(a, w), ha, x.1, rfl⟩
      · rw [← List.append_assoc] at hp
        rcases List.mem_append.mp hp with z | z
        · exact h5 p z y (.tail _ hy)
        · rw [List.mem_singleton.mp z]
          exact wlt_last (h4.1 y.1 (List.mem_map.mpr ⟨y, hy, rfl⟩))
theorem run_rise (hnx : ∀ a, ((nx a).map Prod.fst).Pairwise (· < ·)) {n : Nat} {f g : Fd α} {q : List α} (h : RunN nx n f q g) : ∀ {f1 f2 : Fd α}, f = f1 ++ f2 → q = f2.map Prod.fst → RiOk f1 f2 → FdOk (fun _ => True) f → (g.map Prod.snd).Pairwise wlt := by
  induction h with
  | nil => intro f1 f2 h1 _ h3 _; rw [h1]; exact h3.pw
  | cons h ih =>
    rename_i n f g a q
    intro f1 f2 h1 h2 h3 h4
    cases f2 with
    | nil => cases h2
    | cons p f2 =>
      obtain ⟨a', w⟩ := p
      simp only [List.map_cons, List.cons.injEq] at h2
      obtain ⟨rfl, h2⟩ := h2
      have hm : (a, w) ∈ f := by rw [h1]; simp
      have hw : wayOf f a = w := by unfold wayOf; rw [alook_mem h4.nd hm]; rfl
      have ha : ahas f a = true := ahas_iff.mpr (List.mem_map.mpr ⟨_, hm, rfl⟩)
      have e2 : f1 ++ [(a, w)] ++ f2 = f1 ++ (a, w) :: f2 := by simp
      have pw := h3.pw
      have h3' : RiOk (f1 ++ [(a, w)]) f2 := ⟨by rw [e2]; exact pw, fun p hp => by
        rw [e2] at hp
        rcases h3.par p hp with z | ⟨p', hp', k, z⟩
        · exact .inl z
        · exact .inr ⟨p', List.mem_append_left _ hp', k, z⟩⟩
      obtain ⟨f2', k1, k2, k3⟩ := adds_rise (w := w) (a := a) (f1 := f1 ++ [(a, w)]) (by simp) (ps := nx a) (st := (f, q)) (f2 := f2) (by rw [e2]; exact h1) h2 h3' (hnx a) (fun p hp x hx => by
        rw [e2] at hp
        rcases h3.par p hp with z | ⟨p', hp', k, z⟩
        · rw [z]; exact wlt_nil
        · rw [z]
          refine wlt_snoc ?_
          rw [List.map_append, List.pairwise_append] at pw
          exact pw.2.2 p'.2 (List.mem_map.mpr ⟨p', hp', rfl⟩) w (by simp))
      have e3 : expand nx (f, q) a = (nx a).foldl (add1 w) (f, q) := by unfold expand; rw [hw]
      rw [← e3] at k1 k2
      exact ih k1 k2 k3 (expand_ok nx (fun _ _ _ _ => trivial) h4 ha).1
end
theorem open_rise {t : Talk} {s : Sd} : (openAt t s).Pairwise (· < ·) := by
  unfold openAt
  cases s.pl with
  | none => exact List.Pairwise.nil
  | some n =>
    have h : ((chsAt t (some n)).zipIdx.map Prod.snd).Pairwise (· < ·) := by
      rw [List.zipIdx_map_snd]
      exact List.pairwise_lt_range'
    exact h.sublist (List.Sublist.map _ List.filter_sublist)
theorem ways_rise {t : Talk} {n : Nat} {g : Fd Sd} (hr : RunN (nxS t) n [(beginM t, [])] [beginM t] g) : (g.map Prod.snd).Pairwise wlt := by
  refine run_rise (fun a => ?_) hr (f1 := []) (f2 := [(beginM t, [])]) rfl rfl ⟨by simp, fun p hp => ?_⟩ ⟨by simp, fun _ _ => trivial, fun p hp => ?_⟩
  · have : (nxS t a).map Prod.fst = openAt t a := by unfold nxS; rw [List.map_map]; exact List.map_id _
    rw [this]; exact open_rise
  · left; rw [List.mem_singleton.mp hp]
  · rw [List.mem_singleton.mp hp]; simp
/-! ### sorted by length, then by number -/
def lwD (w : List Nat) : D := .tuple [.int (w.length : Int), nsD w]
open PyProof.Rows in
theorem lex_ns {l m : List (Int ⊕ List Nat)} : ∀ {a b : List Nat}, lexN a b → lexLt itemOrd (W.keyToksAll (a.map fun (k : Nat) => PyData.int (k : Int)) ++ l) (W.keyToksAll (b.map fun (k : Nat) => PyData.int (k : Int)) ++ m) = true
  | [], _, h => h.elim
  | _ :: _, [], h => h.elim
  | x :: a, y :: b, h => by
    simp only [List.map_cons, W.keyToksAll, W.keyToks, List.cons_append, List.nil_append]
    rw [lex_self]
    rcases h with h | ⟨rfl, h⟩
    · have : itemOrd.blt (.inl (x : Int)) (.inl (y : Int)) = true := decide_eq_true (show (x : Int) < y by omega)
      rw [lex_cons, this]; rfl
    · rw [lex_self]; exact lex_ns h
open PyProof.Rows in
theorem lex_le {x y : D} (h : lexLt itemOrd (W.keyToks x) (W.keyToks y) = true) : leD x y = true := by
  show (!lexLt itemOrd (W.keyToks y) (W.keyToks x)) = true
  cases e : lexLt itemOrd (W.keyToks y) (W.keyToks x) with
  | false => rfl
  | true =>
    have z := (listOrd itemOrd).trans _ _ _ h e
    rw [(listOrd itemOrd).irrefl] at z
    cases z
open PyProof.Rows in
theorem le_lw {a b : List Nat} (h : wlt a b) : leD (lwD a) (lwD b) = true := by
  refine lex_le ?_
  simp only [lwD, nsD, W.keyToks, W.keyToksAll, List.cons_append, List.nil_append]
  rw [lex_self]
  rcases h with h | ⟨h1, h2⟩
  · have : itemOrd.blt (.inl (a.length : Int)) (.inl (b.length : Int)) = true := decide_eq_true (show (a.length : Int) < b.length by omega)
    rw [lex_cons, this]; rfl
  · rw [h1, lex_self, lex_self]
    exact lex_ns h2
theorem alike_ns : ∀ {a b : List Nat}, W.alikeAll (a.map fun (k : Nat) => PyData.int (k : Int)) (b.map fun (k : Nat) => PyData.int (k : Int)) = true
  | [], _ => by simp [W.alikeAll]
  | _ :: _, [] => by simp [W.alikeAll]
  | x :: a, y :: b => by simp [W.alikeAll, W.alike, alike_ns (a := a) (b := b)]
theorem sortOk_lw {l : List (List Nat)} : sortOk (l.map lwD) = true := by
  unfold sortOk
  have h1 : ((l.map lwD).all fun x => (l.map lwD).all fun y => W.alike x y) = true := by
    rw [List.all_map, List.all_eq_true]
    intro p _
    simp only [Function.comp]
    rw [List.all_map, List.all_eq_true]
    intro q _
    simp [lwD, nsD, W.alike, W.alikeAll, alike_ns]
  have h2 : shalL 60 (l.map lwD) = true := shalL_of fun x hx => by
    obtain ⟨p, _, rfl⟩ := List.mem_map.mp hx
    have : shal (58 + 1) (nsD p) = true := shal_ns
    show shal 60 (.tuple _) = true
    simp [shal, shalL, this]
  rw [h1, h2]
  simp [List.all_map, Function.comp_def, lwD]
theorem sort_lw {l : List (List Nat)} (h : l.Pairwise wlt) : bltF .sorted [.list (l.map lwD)] = .ok (.list (l.map lwD)) := by
  show R.gd _ _ = _
  rw [sortOk_lw, List.mergeSort_of_pairwise]
  · rfl
  · rw [List.pairwise_map]
    exact h.imp le_lw
/-! ### what was found -/
theorem it_fdg {g : Fd Sd} (h : g ≠ []) : itemsF .plain [fdD g] = .ok (g.map fun p => p.1.enc) := by
  show R.gd (!(dE Sd.enc nsD g).isEmpty && (dE Sd.enc nsD g).all fun kv => isTupD kv.1) (.ok (keysOf (dE Sd.enc nsD g))) = _
  rw [fd_allT, fd_keys]
  have : (dE Sd.enc nsD g).isEmpty = false := by
    cases g with
    | nil => exact absurd rfl h
    | cons p g => rfl
  rw [this, List.map_map]; rfl
theorem eq_oS {a b : Option Str} : cmpF .eq (oS a) (oS b) = .ok (decide (a = b)) := by
  cases a with
  | none => cases b <;> rfl
  | some x =>
    cases b with
    | none => rfl
    | some y => rw [oS_s, oS_s, c_eqS]; congr 1; rw [Bool.eq_iff_iff]; simp
theorem in_oS {l : List (Option Str)} {a : Option Str} : cmpF .isin (oS a) (.list (l.map oS)) = .ok (l.contains a) := by
  rw [c_in]
  have h0 : ∀ o, shal 60 (oS o) = true := fun o => by cases o <;> simp [shal]
  have h1 : shalL 60 (l.map oS) = true := shalL_of fun x hx => by
    obtain ⟨y, _, rfl⟩ := List.mem_map.mp hx
    exact h0 y
  show R.gd (shal 60 (oS a) && shalL 60 (l.map oS)) _ = _
  rw [h1, h0]
  have nb0 : ∀ o, nb (oS o) = true := fun o => by cases o <;> simp [nb]
  have h2 : ((l.map oS).any fun z => PyData.eqv z (oS a)) = l.contains a := by
    rw [List.any_map]
    clear h1
    induction l with
    | nil => rfl
    | cons x l ih =>
      rw [List.any_cons, List.contains_cons, ih]
      congr 1
      show PyData.eqv (oS x) (oS a) = _
      rw [Bool.eq_iff_iff, eqv_iff _ _ (nb0 _) (nb0 _), beq_iff_eq]
      exact ⟨fun e => (oS_inj e).symm, fun e => by rw [e]⟩
  rw [h2]; rfl
theorem drawn3 {t : Talk} (h : Drawn 3 t) : (allSd XY t).length ≤ 262144 := by
  have h3 : t.length ≤ 3 := by
    obtain ⟨m', h1, h2, h3, e⟩ := h.nm
    have : (names t).length = m' := by rw [e]; simp; omega
    simp only [names, List.length_map] at this
    omega
  have hc : (allCh t).length ≤ 9 := by
    unfold allCh
    refine Nat.le_trans (flat_len (n := 3) fun q hq => ?_) (by omega)
    rw [List.length_map, List.length_range]
    exact h.few q hq
  refine Nat.le_trans allSd_len ?_
  have e1 : 2 ^ t.length ≤ 2 ^ 3 := Nat.pow_le_pow_right (by decide) h3
  have e2 : 2 ^ (allCh t).length ≤ 2 ^ 9 := Nat.pow_le_pow_right (by decide) hc
  have e3 : 4 ^ XY.length = 16 := rfl
  rw [e3]
  exact Nat.mul_le_mul (by omega : t.length + 1 ≤ 4) (Nat.mul_le_mul (Nat.le_refl 16) (Nat.mul_le_mul e1 e2))
end BT
set_option Elab.async false
set_option linter.all false
/-! BTDf: shared functions, compiled (printed by shared.py) -/
namespace BT.Q
open BT PySem
def m_way_to : MFun := ⟨2, 5, [], [
  .set 2 (.call "ways_from" [(.var 0)]),
  .set 3 (.lc [4] (.name 4) .plain [(.var 2)] (.cmp .eq (.idx (.var 4) (.int (0))) (.var 1)) (.idx (.var 2) (.var 4))),
  .iff (.nt (.var 3)) [
    .raise "NoWay"] [],
  .ret (.idx (.var 3) (.int (0)))]⟩
def m_unreached : MFun := ⟨1, 4, [], [
  .set 1 (.lc [2] (.name 2) .plain [(.call "reach" [(.var 0)])] (.bl true) (.idx (.var 2) (.int (0)))),
  .ret (.blt .tuple [(.lc [3] (.name 3) .plain [(.var 0)] (.cmp .notin (.idx (.var 3) (.int (0))) (.var 1)) (.idx (.var 3) (.int (0))))])]⟩
def m_never_open : MFun := ⟨1, 8, [1, 4], [
  .setL 1 .dnew,
  .for_ (.name 2) .plain [(.call "reach" [(.var 0)])] [
    .for_ (.name 3) .plain [(.call "open_at" [(.var 0), (.var 2)])] [
      .put 1 (.tup [(.idx (.var 2) (.int (0))), (.var 3)]) (.bl true)]],
  .setL 4 (.lst []),
  .for_ (.name 5) .plain [(.var 0)] [
    .ext 4 (.lc [6] (.name 6) .range1 [(.blt .len [(.idx (.var 5) (.int (2)))])] (.bl true) (.tup [(.idx (.var 5) (.int (0))), (.var 6)]))],
  .ret (.blt .tuple [(.lc [7] (.name 7) .plain [(.lin 4)] (.cmp .notin (.var 7) (.lin 1)) (.var 7))])]⟩
end BT.Q
set_option Elab.async false
set_option linter.all false
set_option maxRecDepth 100000
set_option maxHeartbeats 4000000
/-! BTN: way_to, unreached, never_open. -/
namespace BT
open PySem
def waysAt (g : Fd Sd) (o : Option Str) : List (List Nat) := (g.filter fun p => decide (p.1.pl = o)).map Prod.snd
theorem waysAt_rise {g : Fd Sd} {o : Option Str} (h : (g.map Prod.snd).Pairwise wlt) : (waysAt g o).Pairwise wlt := h.sublist (List.Sublist.map _ List.filter_sublist)
/-- over the keys of what was found: the ways -/
theorem lcM_fd {g : Fd Sd} (nd : (g.map Prod.fst).Nodup) {f : Sd × List Nat → R (Option D)} {c : Sd × List Nat → Bool} {h : Sd × List Nat → D} (hf : ∀ p ∈ g, alook g p.1 = some p.2 → f p = .ok (if c p then some (h p) else none)) : lcM f g = .ok ((g.filter c).map h) := by
  rw [lcM_congr (g := fun p => .ok (if c p = true then some (h p) else none)) (fun p hp => hf p hp (alook_mem nd (by exact hp))), lcM_ok, fm_filter]
  simp
theorem tst_list {xs : List D} : tst (.list xs) = .ok (!xs.isEmpty) := rfl
section
variable {T : Tab} {wf k : Nat} {nat : CallF} {L : List Str} {t : Talk} {s : Sd}
theorem wayTo_ok [Has T "way_to" Q.m_way_to] {g : Fd Sd} (hg : g ≠ []) (nd : (g.map Prod.fst).Nodup) {o : Option Str} (e : callN T wf nat k "ways_from" [tkD t] = .ok (fdD g)) :
    callN T wf nat (k + 1) "way_to" [tkD t, oS o] = match waysAt g o with | [] => .exc "NoWay" | w :: _ => .ok (nsD w) := by
  rw [call_has, run_ok rfl]
  have lc1 : ev (callN T wf nat k) (.lc [4] (.name 4) .plain [(.var 2)] (.cmp .eq (.idx (.var 4) (.int (0))) (.var 1)) (.idx (.var 2) (.var 4))) [some (tkD t), some (oS o), some (fdD g), none, none] = .ok (.list ((waysAt g o).map nsD)) := by
    simp [it_fdg hg, lcN_M, sd_at0, eq_oS]
    rw [lcM_fd nd (c := fun p => decide (p.1.pl = o)) (h := fun p => nsD p.2) fun p hp ha => ?_]
    · simp [waysAt, List.map_map, Function.comp_def]
    · rw [fd_idx ha]
      by_cases h : p.1.pl = o <;> simp [h]
  have hb : Q.m_way_to.body = [.set 2 (.call "ways_from" [(.var 0)]), .set 3 (.lc [4] (.name 4) .plain [(.var 2)] (.cmp .eq (.idx (.var 4) (.int (0))) (.var 1)) (.idx (.var 2) (.var 4))), .iff (.nt (.var 3)) [.raise "NoWay"] [], .ret (.idx (.var 3) (.int (0)))] := rfl
  rw [hb, show startE Q.m_way_to [tkD t, oS o] = [some (tkD t), some (oS o), none, none, none] from rfl]
  generalize (M.lc [4] (.name 4) .plain [(.var 2)] (.cmp .eq (.idx (.var 4) (.int (0))) (.var 1)) (.idx (.var 2) (.var 4))) = E at lc1 ⊢
  cases h : waysAt g o with
  | nil => rw [h] at lc1; simp [e, lc1, tst_list]
  | cons w ws =>
    rw [h] at lc1
    simp [e, lc1, tst_list]
theorem unreached_ok [Has T "unreached" Q.m_unreached] {g : Fd Sd} (e : callN T wf nat k "reach" [tkD t] = .ok (.tuple ((g.map Prod.fst).map Sd.enc))) :
    callN T wf nat (k + 1) "unreached" [tkD t] = .ok (bnD ((names t).filter fun n => !(g.map fun p => p.1.pl).contains (some n))) := by
  rw [call_has, run_ok rfl]
  have i1 : ∀ l : List Sd, itemsF .plain [.tuple (l.map Sd.enc)] = .ok (l.map Sd.enc) := fun l => rfl
  have lc1 : ev (callN T wf nat k) (.lc [2] (.name 2) .plain [(.call "reach" [(.var 0)])] (.bl true) (.idx (.var 2) (.int (0)))) [some (tkD t), none, none, none] = .ok (.list ((g.map fun p => p.1.pl).map oS)) := by
    simp [-List.map_map, e, i1, lcN_M, sd_at0, lcM_all]
    simp [List.map_map, Function.comp_def]
  have n1 : ∀ n : Str, cmpF .notin (.str n) (.list ((g.map fun p => p.1.pl).map oS)) = .ok (!(g.map fun p => p.1.pl).contains (some n)) := fun n => nin_of (in_oS (l := g.map fun p : Sd × List Nat => p.1.pl) (a := some n))
  have hb : Q.m_unreached.body = [.set 1 (.lc [2] (.name 2) .plain [(.call "reach" [(.var 0)])] (.bl true) (.idx (.var 2) (.int (0)))), Q.m_unreached.body.getD 1 .pass] := rfl
  rw [hb, show startE Q.m_unreached [tkD t] = [some (tkD t), none, none, none] from rfl]
  generalize (M.lc [2] (.name 2) .plain [(.call "reach" [(.var 0)])] (.bl true) (.idx (.var 2) (.int (0)))) = E at lc1 ⊢
  generalize (g.map fun p => p.1.pl) = G at lc1 n1 ⊢
  have b6 : ∀ l : List D, bltF .tuple [.list l] = .ok (.tuple l) := fun l => rfl
  simp [lc1, Q.m_unreached, it_tk, lcN_M, pl_at0, n1, ite_ok, lcM_ok, fm_filter, fm_filterN, b6]
  simp [bnD, names, List.filter_map, Function.comp_def]
end
/-! ### places and numbers -/
abbrev PN := Option Str × Nat
def pnD (p : PN) : D := .tuple [oS p.1, .int (p.2 : Int)]
theorem pn_inj (p q : PN) (h : pnD p = pnD q) : p = q := by
  simp only [pnD, PyData.tuple.injEq, List.cons.injEq, PyData.int.injEq, and_true] at h
  exact Prod.ext (oS_inj h.1) (by omega)
theorem nb_pn {p : PN} : nb (pnD p) = true := by
  have : nb (oS p.1) = true := by cases p.1 <;> simp [nb]
  simp [pnD, nb, nbL, this]
theorem pn_eqv (a b : PN) : PyData.eqv (pnD a) (pnD b) = decide (a = b) := by
  rw [Bool.eq_iff_iff, eqv_iff _ _ nb_pn nb_pn, decide_eq_true_eq]
  exact ⟨pn_inj a b, fun e => by rw [e]⟩
abbrev Th := List (PN × Unit)
def thD (l : Th) : D := .dict (dE pnD (fun (_ : Unit) => PyData.bool true) l)
theorem th_fits {l : Th} {p : PN} : keyFits (dE pnD (fun (_ : Unit) => PyData.bool true) l) (pnD p) = true := by
  have h1 : shal 7 (oS p.1) = true := by cases p.1 <;> simp [shal]
  have h2 : nolist (oS p.1) = true := by cases p.1 <;> simp [nolist]
  show (shal 8 (pnD p) && nolist (pnD p) && (dE pnD (fun (_ : Unit) => PyData.bool true) l).all fun kv => isTupD kv.1) = true
  have h3 : shal 8 (pnD p) = true := by show shal (7 + 1) (.tuple _) = true; simp [shal, shalL, h1]
  have h4 : nolist (pnD p) = true := by simp [pnD, nolist, nolistL, h2]
  rw [h3, h4]
  simp only [Bool.and_self, Bool.true_and, dE, List.all_map, List.all_eq_true]
  intro p _
  rfl
theorem th_nin {l : Th} {p : PN} : cmpF .notin (pnD p) (thD l) = .ok (!ahas l p) := by
  rw [c_nin]
  show (R.gd (keyFits (dE pnD (fun (_ : Unit) => PyData.bool true) l) (pnD p)) (.ok (dfind (dE pnD (fun (_ : Unit) => PyData.bool true) l) (pnD p)).isSome)).bind _ = _
  rw [th_fits, gd_true, dfind_E pn_eqv, R.bind_ok, Option.isSome_map, alook_isSome]
theorem th_put {l : Th} {p : PN} (hl : l.length < LIM) : putF (thD l) (pnD p) (.bool true) = .ok (thD (aput l p ())) := by
  show R.gd (keyFits (dE pnD (fun (_ : Unit) => PyData.bool true) l) (pnD p) && decide ((dE pnD (fun (_ : Unit) => PyData.bool true) l).length < LIM)) (.ok (PyData.dict (dput (dE pnD (fun (_ : Unit) => PyData.bool true) l) (pnD p) ((fun (_ : Unit) => PyData.bool true) ())))) = _
  rw [th_fits, dput_E pn_eqv]
  have e0 : (dE pnD (fun (_ : Unit) => PyData.bool true) l).length = l.length := by simp [dE]
  rw [e0, decide_eq_true hl]; rfl
theorem aput_len {α β : Type} [DecidableEq α] {l : List (α × β)} {a : α} {b : β} : (aput l a b).length ≤ l.length + 1 := by
  unfold aput
  split <;> simp
def thS (t : Talk) (l : Th) (s : Sd) : Th := (openAt t s).foldl (fun l k => aput l (s.pl, k) ()) l
def thM (t : Talk) (G : List Sd) : Th := G.foldl (thS t) []
theorem puts_len {s : Sd} : ∀ {ks : List Nat} {l : Th}, (ks.foldl (fun l k => aput l (s.pl, k) ()) l).length ≤ l.length + ks.length
  | [], l => Nat.le_refl _
  | k :: ks, l => by
    have h1 := puts_len (s := s) (ks := ks) (l := aput l (s.pl, k) ())
    have h2 := aput_len (l := l) (a := (s.pl, k)) (b := ())
    rw [List.foldl_cons, List.length_cons]
    omega
theorem thS_len {L : List Str} {t : Talk} (TK : TalkOk L t) {l : Th} {s : Sd} : (thS t l s).length ≤ l.length + 20 := by
  have h1 := puts_len (s := s) (ks := openAt t s) (l := l)
  have h2 := open_few (s := s) TK
  exact Nat.le_trans h1 (Nat.add_le_add_left h2 _)
theorem thM_len {L : List Str} {t : Talk} (TK : TalkOk L t) : ∀ {G : List Sd} {l : Th}, (G.foldl (thS t) l).length ≤ l.length + 20 * G.length
  | [], l => Nat.le_refl _
  | s :: G, l => by
    have h1 := thM_len TK (G := G) (l := thS t l s)
    have h2 := thS_len TK (l := l) (s := s)
    rw [List.foldl_cons, List.length_cons]
    omega
theorem ahas_aput {α β : Type} [DecidableEq α] {l : List (α × β)} {a c : α} {b : β} : ahas (aput l a b) c = (decide (c = a) || ahas l c) := by
  rw [← alook_isSome, alook_aput, ← alook_isSome]
  by_cases h : c = a <;> simp [h]
theorem puts_has {s : Sd} {p : PN} : ∀ {ks : List Nat} {l : Th}, ahas (ks.foldl (fun l k => aput l (s.pl, k) ()) l) p = true ↔ (p.1 = s.pl ∧ p.2 ∈ ks) ∨ ahas l p = true
  | [], l => by simp
  | k :: ks, l => by
    rw [List.foldl_cons, puts_has, ahas_aput, Bool.or_eq_true, decide_eq_true_eq, List.mem_cons]
    constructor
    · rintro (⟨h1, h2⟩ | h | h)
      · exact .inl ⟨h1, .inr h2⟩
      · rw [h]; exact .inl ⟨rfl, .inl rfl⟩
      · exact .inr h
    · rintro (⟨h1, h2 | h2⟩ | h)
      · exact .inr (.inl (Prod.ext h1 h2))
      · exact .inl ⟨h1, h2⟩
      · exact .inr (.inr h)
theorem thM_has {t : Talk} {p : PN} : ∀ {G : List Sd} {l : Th}, ahas (G.foldl (thS t) l) p = true ↔ (∃ s ∈ G, p.1 = s.pl ∧ p.2 ∈ openAt t s) ∨ ahas l p = true
  | [], l => by simp
  | s :: G, l => by
    rw [List.foldl_cons, thM_has]
    unfold thS
    rw [puts_has]
    constructor
    · rintro (⟨s', h1, h2⟩ | h | h)
      · exact .inl ⟨s', .tail _ h1, h2⟩
      · exact .inl ⟨s, .head _, h⟩
      · exact .inr h
    · rintro (⟨s', h1, h2⟩ | h)
      · rcases List.mem_cons.mp h1 with rfl | h1
        · exact .inr (.inl h2)
        · exact .inl ⟨s', h1, h2⟩
      · exact .inr (.inr h)
/-- all choices, by place and number -/
def allPN (t : Talk) : List PN := t.flatMap fun q => (List.range q.chs.length).map fun k => (some q.name, k)
def neverM (t : Talk) (G : List Sd) : List PN := (allPN t).filter fun p => !ahas (thM t G) p
def pnL (l : List PN) : List D := l.map pnD
theorem allPN_len {L : List Str} {t : Talk} (TK : TalkOk L t) : (allPN t).length ≤ 400 := by
  unfold allPN
  refine Nat.le_trans (flat_len (n := 20) fun q hq => ?_) ?_
  · rw [List.length_map, List.length_range]; exact (TK.chs q hq).1
  · have := TK.few; omega
section
variable {T : Tab} {wf k : Nat} {nat : CallF} {L : List Str} {t : Talk} {s : Sd}
theorem pl_at2 {p : Pl} : idxF p.enc (.int 2) = .ok (chD p.chs) := rfl
theorem len_ch {cs : List Ch} : bltF .len [chD cs] = .ok (.int (cs.length : Int)) := by
  show R.ok (PyData.int ((cs.map Ch.enc).length : Int)) = _
  rw [List.length_map]
theorem foldl_flat {α β : Type} {f : α → List β} {xs : List α} : ∀ {acc : List β}, xs.foldl (fun acc x => acc ++ f x) acc = acc ++ xs.flatMap f := by
  induction xs with
  | nil => intro acc; simp
  | cons x xs ih => intro acc; rw [List.foldl_cons, ih]; simp
theorem neverOpen_ok [Has T "never_open" Q.m_never_open] (TK : TalkOk L t) {G : List Sd} (hG : ∀ s ∈ G, SdOk L t s) (hl : 20 * G.length < LIM)
    (e : callN T wf nat k "reach" [tkD t] = .ok (.tuple (G.map Sd.enc))) (eo : ∀ s, SdOk L t s → callN T wf nat k "open_at" [tkD t, s.enc] = .ok (nsD (openAt t s))) :
    callN T wf nat (k + 1) "never_open" [tkD t] = .ok (.tuple (pnL (neverM t G))) := by
  rw [call_has, run_ok rfl]
  have i1 : ∀ l : List Sd, itemsF .plain [.tuple (l.map Sd.enc)] = .ok (l.map Sd.enc) := fun l => rfl
  obtain ⟨r', e1, y2, y3, rfl⟩ := forN_fold (tg := .name 2) (body := fun r1 => evSs (callN T wf nat k) wf (fb (Q.m_never_open.body.getD 1 .pass)) r1) Sd.enc (fun (acc : Th) r => ∃ y2 y3, r = [some (tkD t), some (thD acc), y2, y3, none, none, none, none]) (thS t) G []
    [some (tkD t), some (.dict []), none, none, none, none, none, none] ⟨none, none, rfl⟩ (fun pre s post r eq hr => by
      obtain ⟨y2, y3, rfl⟩ := hr
      have hs : SdOk L t s := hG s (by rw [eq]; simp)
      have hlen := thM_len TK (G := pre) (l := [])
      have hpl : pre.length < G.length := by rw [eq]; simp
      simp only [List.length_nil, Nat.zero_add] at hlen
      generalize pre.foldl (thS t) [] = acc at hlen ⊢
      obtain ⟨r2, e2, z3, rfl⟩ := forN_fold (tg := .name 3) (body := fun r1 => evSs (callN T wf nat k) wf [.put 1 (.tup [(.idx (.var 2) (.int (0))), (.var 3)]) (.bl true)] r1) (fun (k : Nat) => PyData.int (k : Int)) (fun (a2 : Th) r => ∃ z3, r = [some (tkD t), some (thD a2), some s.enc, z3, none, none, none, none]) (fun l k => aput l (s.pl, k) ()) (openAt t s) acc
        [some (tkD t), some (thD acc), some s.enc, y3, none, none, none, none] ⟨y3, rfl⟩ (fun pre2 k2 post2 r eq2 hr => by
          obtain ⟨z3, rfl⟩ := hr
          have hlen2 := puts_len (s := s) (ks := pre2) (l := acc)
          have hf := open_few (s := s) TK
          have : pre2.length < (openAt t s).length := by rw [eq2]; simp
          generalize pre2.foldl (fun l k => aput l (s.pl, k) ()) acc = a2 at hlen2 ⊢
          have p1 := th_put (l := a2) (p := (s.pl, k2)) (by omega)
          simp only [pnD] at p1
          exact ⟨_, _, rfl,   .inl (by simp [sd_at0, p1]), some (.int (k2 : Int)), rfl⟩)
      refine ⟨_, _, rfl, .inl ?_, some s.enc, z3, rfl⟩
      have hi := it_ns (ks := openAt t s)
      have eo' := eo s hs
      show evSs (callN T wf nat k) wf [.for_ (.name 3) .plain [(.call "open_at" [(.var 0), (.var 2)])] [.put 1 (.tup [(.idx (.var 2) (.int (0))), (.var 3)]) (.bl true)]] [some (tkD t), some (thD acc), some s.enc, y3, none, none, none, none] = _
      generalize [MS.put 1 (.tup [(.idx (.var 2) (.int (0))), (.var 3)]) (.bl true)] = B at e2 ⊢
      simp [eo', hi, e2]
      rfl)
  obtain ⟨r2, e2, y5, y6, rfl⟩ := forN_fold (tg := .name 5) (body := fun r1 => evSs (callN T wf nat k) wf (fb (Q.m_never_open.body.getD 3 .pass)) r1) Pl.enc (fun (acc : List PN) r => ∃ y5 y6, r = [some (tkD t), some (thD (G.foldl (thS t) [])), y2, y3, some (.list (pnL acc)), y5, y6, none]) (fun acc q => acc ++ (List.range q.chs.length).map fun k => (some q.name, k)) t []
    [some (tkD t), some (thD (G.foldl (thS t) [])), y2, y3, some (.list []), none, none, none] ⟨none, none, rfl⟩ (fun pre q post r eq hr => by
      obtain ⟨y5, y6, rfl⟩ := hr
      have hq : q ∈ t := by rw [eq]; simp
      have hlen : (pre.foldl (fun acc (q : Pl) => acc ++ (List.range q.chs.length).map fun k => ((some q.name, k) : PN)) []).length ≤ 400 := by
        rw [foldl_flat, List.nil_append]
        have h1 : pre.length ≤ 20 := by have := TK.few; rw [eq, List.length_append] at this; omega
        refine Nat.le_trans (flat_len (n := 20) fun q hq => ?_) (by omega)
        rw [List.length_map, List.length_range]
        exact (TK.chs q (by rw [eq]; exact List.mem_append_left _ hq)).1
      have hc := (TK.chs q hq).1
      generalize pre.foldl (fun acc (q : Pl) => acc ++ (List.range q.chs.length).map fun k => ((some q.name, k) : PN)) [] = acc at hlen ⊢
      have el : ev (callN T wf nat k) (.lc [6] (.name 6) .range1 [(.blt .len [(.idx (.var 5) (.int (2)))])] (.bl true) (.tup [(.idx (.var 5) (.int (0))), (.var 6)])) [some (tkD t), some (thD (G.foldl (thS t) [])), y2, y3, some (.list (pnL acc)), some q.enc, y6, none] = .ok (.list (pnL ((List.range q.chs.length).map fun k => (some q.name, k)))) := by
        have hr := it_range1 (n := (q.chs.length : Int)) (by omega)
        simp [pl_at2, len_ch, hr, lcN_M, pl_at0, lcM_all]
        simp [pnL, pnD, List.map_map, Function.comp_def]
      refine ⟨_, _, rfl, .inl ?_, some q.enc, y6, rfl⟩
      show evSs (callN T wf nat k) wf [.ext 4 (.lc [6] (.name 6) .range1 [(.blt .len [(.idx (.var 5) (.int (2)))])] (.bl true) (.tup [(.idx (.var 5) (.int (0))), (.var 6)]))] [some (tkD t), some (thD (G.foldl (thS t) [])), y2, y3, some (.list (pnL acc)), some q.enc, y6, none] = _
      rw [eSs_c, eS_ext (xs := pnL acc) (ys := pnL ((List.range q.chs.length).map fun k => (some q.name, k))) rfl el, if_pos (by simp [pnL, LIM]; omega)]
      simp [pnL])
  rw [foldl_flat, List.nil_append] at e2
  have hb : Q.m_never_open.body = [.setL 1 .dnew, .for_ (.name 2) .plain [(.call "reach" [(.var 0)])] (fb (Q.m_never_open.body.getD 1 .pass)), .setL 4 (.lst []), .for_ (.name 5) .plain [(.var 0)] (fb (Q.m_never_open.body.getD 3 .pass)), .ret (.blt .tuple [(.lc [7] (.name 7) .plain [(.lin 4)] (.cmp .notin (.var 7) (.lin 1)) (.var 7))])] := rfl
  have lcl : ev (callN T wf nat k) (.lc [7] (.name 7) .plain [(.lin 4)] (.cmp .notin (.var 7) (.lin 1)) (.var 7)) [some (tkD t), some (thD (G.foldl (thS t) [])), y2, y3, some (.list (pnL (allPN t))), y5, y6, none] = .ok (.list (pnL (neverM t G))) := by
    have hi : itemsF .plain [.list (pnL (allPN t))] = .ok ((allPN t).map pnD) := rfl
    simp [hi, lcN_M, th_nin, ite_ok, lcM_ok, fm_filter]
    unfold pnL neverM thM
    first | rfl | (congr 1; try simp) 
  rw [hb, show startE Q.m_never_open [tkD t] = [some (tkD t), none, none, none, none, none, none, none] from rfl]
  have hi2 := it_tk (t := t)
  have b6 : ∀ l : List D, bltF .tuple [.list l] = .ok (.tuple l) := fun l => rfl
  generalize fb (Q.m_never_open.body.getD 1 .pass) = B1 at e1 ⊢
  generalize fb (Q.m_never_open.body.getD 3 .pass) = B2 at e2 ⊢
  generalize (M.lc [7] (.name 7) .plain [(.lin 4)] (.cmp .notin (.var 7) (.lin 1)) (.var 7)) = E at lcl ⊢
  have e2' : forN (.name 5) (fun r1 => evSs (callN T wf nat k) wf B2 r1) (t.map Pl.enc) [some (tkD t), some (thD (G.foldl (thS t) [])), y2, y3, some (.list []), none, none, none] = .nx [some (tkD t), some (thD (G.foldl (thS t) [])), y2, y3, some (.list (pnL (allPN t))), y5, y6, none] := e2
  simp [e, i1, e1, hi2, e2', lcl, b6]
end
end BT
set_option Elab.async false
set_option linter.all false
/-! BTDf: shared functions, compiled (printed by shared.py) -/
namespace BT.Q
open BT PySem
def m_is_so : MFun := ⟨2, 2, [], [
  .ret (.call "holds" [(.var 1), (.idx (.var 0) (.int (1))), (.idx (.var 0) (.int (2)))])]⟩
def m_ever : MFun := ⟨2, 3, [], [
  .ret (.blt .any [(.lc [2] (.name 2) .plain [(.call "reach" [(.var 0)])] (.bl true) (.call "is_so" [(.var 2), (.var 1)]))])]⟩
def m_always : MFun := ⟨2, 3, [], [
  .ret (.blt .all [(.lc [2] (.name 2) .plain [(.call "reach" [(.var 0)])] (.bl true) (.call "is_so" [(.var 2), (.var 1)]))])]⟩
def m_way_for : MFun := ⟨2, 5, [], [
  .set 2 (.call "ways_from" [(.var 0)]),
  .set 3 (.lc [4] (.name 4) .plain [(.var 2)] (.call "is_so" [(.var 4), (.var 1)]) (.idx (.var 2) (.var 4))),
  .iff (.nt (.var 3)) [
    .raise "NoWay"] [],
  .ret (.idx (.var 3) (.int (0)))]⟩
def m__law_of_talk : MFun := ⟨3, 7, [], [
  .set 3 (.call "_law_test" [(.var 0), (.var 2)]),
  .set 4 (.lc [5] (.name 5) .plain [(.var 1)] (.bl true) (.idx (.var 5) (.int (0)))),
  .iff (.cmp .ne (.lc [6] (.name 6) .plain [(.call "_law_places_of" [(.var 3)])] (.cmp .notin (.var 6) (.var 4)) (.var 6)) (.lst [])) [
    .ret (.tup [(.str "has"), (.idx (.tup [(.str "x"), (.str "y")]) (.call "_law_mix" [(.var 0), (.int (9433)), (.int (2))])), (.bin .add (.int (1)) (.call "_law_mix" [(.var 0), (.int (9431)), (.int (2))]))])] [],
  .ret (.var 3)]⟩
def m__law_is_so : MFun := ⟨2, 2, [], [
  .ret (.call "_law_holds" [(.var 1), (.idx (.var 0) (.int (1))), (.idx (.var 0) (.int (2)))])]⟩
end BT.Q
set_option Elab.async false
set_option linter.all false
set_option maxRecDepth 100000
set_option maxHeartbeats 4000000
/-! BTI: tests of talks: is_so, ever, always, way_for. -/
namespace BT
open PySem
def so (u : Tst) (s : Sd) : Bool := hv s.bk s.been u
def soAt (g : Fd Sd) (u : Tst) : Fd Sd := g.filter fun p => so u p.1
section
variable {T : Tab} {wf k : Nat} {nat : CallF} {L : List Str} {t : Talk} {s : Sd}
theorem isSo_ok [Has T "holds" Q.m_holds] [Has T "is_so" Q.m_is_so] {u : Tst} (h : SdOk L t s) (hk : u.dep + 1 ≤ k) : callN T wf nat k "is_so" [s.enc, u.enc] = .ok (.bool (so u s)) := by
  obtain ⟨k, rfl⟩ : ∃ k', k = k' + 1 := ⟨k - 1, by omega⟩
  rw [call_has, run_ok rfl]
  have e := holds_ok (T := T) (wf := wf) (nat := nat) (ss := s.been) h.good.keys u k (by omega)
  simp [Q.m_is_so, startE, sd_at1, sd_at2, e, so]
theorem lisSo_ok [Has T "_law_holds" Q.m__law_holds] [Has T "_law_is_so" Q.m__law_is_so] {u : Tst} (h : SdOk L t s) (hp : u.pos) (hk : u.dep + 1 ≤ k) : callN T wf nat k "_law_is_so" [s.enc, u.enc] = .ok (.bool (so u s)) := by
  obtain ⟨k, rfl⟩ : ∃ k', k = k' + 1 := ⟨k - 1, by omega⟩
  rw [call_has, run_ok rfl]
  have e := lholds_ok (T := T) (wf := wf) (nat := nat) (ss := s.been) h.good.keys u k hp (by omega)
  simp [Q.m__law_is_so, startE, sd_at1, sd_at2, e, so]
theorem it_gt {g : Fd Sd} : itemsF .plain [.tuple ((g.map Prod.fst).map Sd.enc)] = .ok (g.map fun p => p.1.enc) := by
  show R.ok _ = _
  rw [List.map_map]; rfl
theorem ever_ok [Has T "ever" Q.m_ever] {g : Fd Sd} {u : Tst} (e : callN T wf nat k "reach" [tkD t] = .ok (.tuple ((g.map Prod.fst).map Sd.enc))) (es : ∀ p ∈ g, callN T wf nat k "is_so" [p.1.enc, u.enc] = .ok (.bool (so u p.1))) :
    callN T wf nat (k + 1) "ever" [tkD t, u.enc] = .ok (.bool (g.any fun p => so u p.1)) := by
  rw [call_has, run_ok rfl]
  have lc1 : ev (callN T wf nat k) (.lc [2] (.name 2) .plain [(.call "reach" [(.var 0)])] (.bl true) (.call "is_so" [(.var 2), (.var 1)])) [some (tkD t), some u.enc, none] = .ok (.list (g.map fun p => .bool (so u p.1))) := by
    have e2 : lcM (fun p : Sd × List Nat => (callN T wf nat k "is_so" [p.1.enc, u.enc]).bind fun y => R.ok (some y)) g = .ok (g.map fun p => .bool (so u p.1)) := by
      rw [← lcM_all]
      exact lcM_congr fun p hp => by rw [es p hp]; rfl
    have hi := it_gt (g := g)
    generalize PyData.tuple ((g.map Prod.fst).map Sd.enc) = GG at e hi
    simp [e, hi, lcN_M, e2]
  have a := any_map (p := fun p : Sd × List Nat => so u p.1) (xs := g)
  simp only [Q.m_ever, startE]
  generalize (M.lc [2] (.name 2) .plain [(.call "reach" [(.var 0)])] (.bl true) (.call "is_so" [(.var 2), (.var 1)])) = E at lc1 ⊢
  simp [lc1, a]
theorem always_ok [Has T "always" Q.m_always] {g : Fd Sd} {u : Tst} (e : callN T wf nat k "reach" [tkD t] = .ok (.tuple ((g.map Prod.fst).map Sd.enc))) (es : ∀ p ∈ g, callN T wf nat k "is_so" [p.1.enc, u.enc] = .ok (.bool (so u p.1))) :
    callN T wf nat (k + 1) "always" [tkD t, u.enc] = .ok (.bool (g.all fun p => so u p.1)) := by
  rw [call_has, run_ok rfl]
  have lc1 : ev (callN T wf nat k) (.lc [2] (.name 2) .plain [(.call "reach" [(.var 0)])] (.bl true) (.call "is_so" [(.var 2), (.var 1)])) [some (tkD t), some u.enc, none] = .ok (.list (g.map fun p => .bool (so u p.1))) := by
    have e2 : lcM (fun p : Sd × List Nat => (callN T wf nat k "is_so" [p.1.enc, u.enc]).bind fun y => R.ok (some y)) g = .ok (g.map fun p => .bool (so u p.1)) := by
      rw [← lcM_all]
      exact lcM_congr fun p hp => by rw [es p hp]; rfl
    have hi := it_gt (g := g)
    generalize PyData.tuple ((g.map Prod.fst).map Sd.enc) = GG at e hi
    simp [e, hi, lcN_M, e2]
  have a := all_map (p := fun p : Sd × List Nat => so u p.1) (xs := g)
  simp only [Q.m_always, startE]
  generalize (M.lc [2] (.name 2) .plain [(.call "reach" [(.var 0)])] (.bl true) (.call "is_so" [(.var 2), (.var 1)])) = E at lc1 ⊢
  simp [lc1, a]
theorem wayFor_ok [Has T "way_for" Q.m_way_for] {g : Fd Sd} (hg : g ≠ []) (nd : (g.map Prod.fst).Nodup) {u : Tst} (e : callN T wf nat k "ways_from" [tkD t] = .ok (fdD g)) (es : ∀ p ∈ g, callN T wf nat k "is_so" [p.1.enc, u.enc] = .ok (.bool (so u p.1))) :
    callN T wf nat (k + 1) "way_for" [tkD t, u.enc] = match soAt g u with | [] => .exc "NoWay" | p :: _ => .ok (nsD p.2) := by
  rw [call_has, run_ok rfl]
  have lc1 : ev (callN T wf nat k) (.lc [4] (.name 4) .plain [(.var 2)] (.call "is_so" [(.var 4), (.var 1)]) (.idx (.var 2) (.var 4))) [some (tkD t), some u.enc, some (fdD g), none, none] = .ok (.list ((soAt g u).map fun p => nsD p.2)) := by
    simp [it_fdg hg, lcN_M]
    rw [lcM_fd nd (c := fun p => so u p.1) (h := fun p => nsD p.2) fun p hp ha => ?_]
    · simp [soAt]
    · rw [fd_idx ha, es p hp]
      cases h : so u p.1 <;> simp [h]
  have hb : Q.m_way_for.body = [.set 2 (.call "ways_from" [(.var 0)]), .set 3 (.lc [4] (.name 4) .plain [(.var 2)] (.call "is_so" [(.var 4), (.var 1)]) (.idx (.var 2) (.var 4))), .iff (.nt (.var 3)) [.raise "NoWay"] [], .ret (.idx (.var 3) (.int (0)))] := rfl
  rw [hb, show startE Q.m_way_for [tkD t, u.enc] = [some (tkD t), some u.enc, none, none, none] from rfl]
  generalize (M.lc [4] (.name 4) .plain [(.var 2)] (.call "is_so" [(.var 4), (.var 1)]) (.idx (.var 2) (.var 4))) = E at lc1 ⊢
  cases h : soAt g u with
  | nil => rw [h] at lc1; simp [e, lc1, tst_list]
  | cons w ws =>
    rw [h] at lc1
    simp [e, lc1, tst_list]
/-- a drawn test of a talk -/
theorem ofTalk_ok [Has T "_law_mix" Q.m__law_mix] [Has T "_law_test" Q.m__law_test] [Has T "_law_places_of" Q.m__law_places_of] [Has T "_law_of_talk" Q.m__law_of_talk] (c : Int) (t : Talk) :
    ∃ u : Tst, u.gen ∧ u.dep ≤ 2 ∧ ∀ k, 4 ≤ k → callN T wf nat k "_law_of_talk" [.int c, tkD t, .int 2] = .ok u.enc := by
  obtain ⟨u, hg, hd, hu⟩ := test_ok (T := T) (wf := wf) (nat := nat) 1 c
  have p2 : 0 ≤ mix c 9431 2 ∧ mix c 9431 2 < 2 := ⟨mix_pos (by omega), mix_lt (by omega)⟩
  have pk := pick2' (a := (.str "x" : D)) (b := .str "y") (mix_pos (c := c) (p := 9433) (n := 2) (by omega)) (mix_lt (by omega))
  have lcN1 : ∀ (C : CallF) (x3 x5 x6 : Option D), ev C (.lc [5] (.name 5) .plain [(.var 1)] (.bl true) (.idx (.var 5) (.int (0)))) [some (.int c), some (tkD t), some (.int 2), x3, none, x5, x6] = .ok (.list ((names t).map .str)) := fun C x3 x5 x6 => by
    simp [it_tk, lcN_M, pl_at0, lcM_all, names]
  have lcP : ∀ k, 3 ≤ k → ∃ l : List Str, l = (u.places.filter fun n => !(names t).contains n) ∧ ev (callN T wf nat k) (.lc [6] (.name 6) .plain [(.call "_law_places_of" [(.var 3)])] (.cmp .notin (.var 6) (.var 4)) (.var 6)) [some (.int c), some (tkD t), some (.int 2), some u.enc, some (.list ((names t).map .str)), none, none] = .ok (.list (l.map .str)) := fun k hk => by
    refine ⟨_, rfl, ?_⟩
    have e := places_ok (T := T) (wf := wf) (nat := nat) u k (by omega) (by omega)
    have n1 : ∀ n : Str, cmpF .notin (.str n) (.list ((names t).map .str)) = .ok (!(names t).contains n) := fun n => nin_of in_lst
    have hi : itemsF .plain [.list (u.places.map .str)] = .ok (u.places.map .str) := rfl
    generalize names t = NT at n1 ⊢
    simp [e, hi, lcN_M, n1, ite_ok, lcM_ok, fm_filter, fm_filterN]
  have hb : Q.m__law_of_talk.body = [.set 3 (.call "_law_test" [(.var 0), (.var 2)]), .set 4 (.lc [5] (.name 5) .plain [(.var 1)] (.bl true) (.idx (.var 5) (.int (0)))),
    .iff (.cmp .ne (.lc [6] (.name 6) .plain [(.call "_law_places_of" [(.var 3)])] (.cmp .notin (.var 6) (.var 4)) (.var 6)) (.lst [])) [.ret (.tup [(.str "has"), (.idx (.tup [(.str "x"), (.str "y")]) (.call "_law_mix" [(.var 0), (.int (9433)), (.int (2))])), (.bin .add (.int (1)) (.call "_law_mix" [(.var 0), (.int (9431)), (.int (2))]))])] [], .ret (.var 3)] := rfl
  have sh : ∀ l : List Str, shalL 59 (l.map (.str : Str → D)) = true := fun l => shalL_of fun x hx => by
    obtain ⟨y, _, rfl⟩ := List.mem_map.mp hx
    simp [shal]
  by_cases hl : (u.places.filter fun n => !(names t).contains n) = []
  · refine ⟨u, hg, hd, fun k hk => ?_⟩
    obtain ⟨k, rfl⟩ : ∃ k', k = k' + 1 := ⟨k - 1, by omega⟩
    rw [call_has, run_ok rfl, hb, show startE Q.m__law_of_talk [.int c, tkD t, .int 2] = [some (.int c), some (tkD t), some (.int 2), none, none, none, none] from rfl]
    obtain ⟨l, el, e1⟩ := lcP k (by omega)
    rw [hl] at el
    subst el
    have e2 := lcN1 (callN T wf nat k) (some u.enc) none none
    have e3 := hu k (by omega)
    have e4 := ne_nilL (sh [])
    generalize (M.lc [6] (.name 6) .plain [(.call "_law_places_of" [(.var 3)])] (.cmp .notin (.var 6) (.var 4)) (.var 6)) = E1 at e1 ⊢
    generalize (M.lc [5] (.name 5) .plain [(.var 1)] (.bl true) (.idx (.var 5) (.int (0)))) = E2 at e2 ⊢
    simp only [List.map_nil] at e1 e4
    have e3' : callN T wf nat k "_law_test" [.int c, .int 2] = .ok u.enc := e3
    simp [e3', e2, e1, e4]
  · refine ⟨.has (if mix c 9433 2 = 0 then "x" else "y") (1 + mix c 9431 2), ⟨by split <;> simp, by omega, by omega⟩, by simp [Tst.dep], fun k hk => ?_⟩
    obtain ⟨k, rfl⟩ : ∃ k', k = k' + 1 := ⟨k - 1, by omega⟩
    have em : ∀ {c p n : Int}, 0 < p → p < 1000000 → 0 < n → callN T wf nat k "_law_mix" [.int c, .int p, .int n] = .ok (.int (mix c p n)) := fun h1 h2 h3 => mixT h1 h2 h3 (by omega)
    rw [call_has, run_ok rfl, hb, show startE Q.m__law_of_talk [.int c, tkD t, .int 2] = [some (.int c), some (tkD t), some (.int 2), none, none, none, none] from rfl]
    obtain ⟨l, el, e1⟩ := lcP k (by omega)
    have e2 := lcN1 (callN T wf nat k) (some u.enc) none none
    have e3 := hu k (by omega)
    have e4 := ne_nilL (sh l)
    have hle : (l.map (.str : Str → D)).isEmpty = false := by
      rw [List.isEmpty_map, el]
      cases hq : (u.places.filter fun n => !(names t).contains n) with
      | nil => exact absurd hq hl
      | cons => rfl
    rw [hle] at e4
    have nm : (if mix c 9433 2 = 0 then PyData.str "x" else PyData.str "y") = .str (if mix c 9433 2 = 0 then "x" else "y") := by split <;> rfl
    rw [nm] at pk
    generalize (M.lc [6] (.name 6) .plain [(.call "_law_places_of" [(.var 3)])] (.cmp .notin (.var 6) (.var 4)) (.var 6)) = E1 at e1 ⊢
    generalize (M.lc [5] (.name 5) .plain [(.var 1)] (.bl true) (.idx (.var 5) (.int (0)))) = E2 at e2 ⊢
    have e3' : callN T wf nat k "_law_test" [.int c, .int 2] = .ok u.enc := e3
    simp [e3', e2, e1, e4, em, pk, Tst.enc]
end
end BT
set_option Elab.async false
set_option linter.all false
set_option maxRecDepth 100000
set_option maxHeartbeats 8000000
/-! the program of the law, compiled -/
namespace K34
open BT PySem L2
def top (i : Nat) : Stmt := PySem.Challenge.pw_branchtalk_k34_whole_ever_and_always.main.body.getD i (.Pass ⟨0, 0, 0, 0⟩)
def cons : List (Str × M) := [("MOST", (.int (3)))]
def exs : Exs := [("TalkError", [("TalkError", true), ("NoChoice", false), ("NoWay", false), ("NoStep", false), ("NoText", false), ("NoPlace", false), ("BadTalk", false), ("ValueError", true)]), ("NoChoice", [("TalkError", true), ("NoChoice", true), ("NoWay", false), ("NoStep", false), ("NoText", false), ("NoPlace", false), ("BadTalk", false), ("ValueError", true)]), ("NoWay", [("TalkError", true), ("NoChoice", false), ("NoWay", true), ("NoStep", false), ("NoText", false), ("NoPlace", false), ("BadTalk", false), ("ValueError", true)]), ("NoStep", [("TalkError", true), ("NoChoice", false), ("NoWay", false), ("NoStep", true), ("NoText", false), ("NoPlace", false), ("BadTalk", false), ("ValueError", true)]), ("NoText", [("TalkError", true), ("NoChoice", false), ("NoWay", false), ("NoStep", false), ("NoText", true), ("NoPlace", false), ("BadTalk", false), ("ValueError", true)]), ("NoPlace", [("TalkError", true), ("NoChoice", false), ("NoWay", false), ("NoStep", false), ("NoText", false), ("NoPlace", true), ("BadTalk", false), ("ValueError", true)]), ("BadTalk", [("TalkError", true), ("NoChoice", false), ("NoWay", false), ("NoStep", false), ("NoText", false), ("NoPlace", false), ("BadTalk", true), ("ValueError", true)])]
def m_holds : MFun := ⟨3, 3, [], [
  .iff (.cmp .eq (.idx (.var 0) (.int (0))) (.str "has")) [
    .ret (.cmp .ge (.mth .get (.blt .dict [(.var 1)]) [(.idx (.var 0) (.int (1))), (.int (0))]) (.idx (.var 0) (.int (2))))] [],
  .iff (.cmp .eq (.idx (.var 0) (.int (0))) (.str "been")) [
    .ret (.cmp .isin (.idx (.var 0) (.int (1))) (.var 2))] [],
  .iff (.cmp .eq (.idx (.var 0) (.int (0))) (.str "not")) [
    .ret (.nt (.call "holds" [(.idx (.var 0) (.int (1))), (.var 1), (.var 2)]))] [],
  .iff (.cmp .eq (.idx (.var 0) (.int (0))) (.str "and")) [
    .ret (.and (.call "holds" [(.idx (.var 0) (.int (1))), (.var 1), (.var 2)]) (.call "holds" [(.idx (.var 0) (.int (2))), (.var 1), (.var 2)]))] [],
  .ret (.or (.call "holds" [(.idx (.var 0) (.int (1))), (.var 1), (.var 2)]) (.call "holds" [(.idx (.var 0) (.int (2))), (.var 1), (.var 2)]))]⟩
def m_done : MFun := ⟨2, 6, [2], [
  .setL 2 (.blt .dict [(.var 0)]),
  .for_ (.tup [3, 4, 5]) .plain [(.var 1)] [
    .iff (.cmp .eq (.var 3) (.str "add")) [
      .set 5 (.blt .max2 [(.int (0)), (.blt .min2 [(.int (3)), (.bin .add (.mth .get (.lin 2) [(.var 4), (.int (0))]) (.var 5))])])] [],
    .put 2 (.var 4) (.var 5)],
  .ret (.blt .tuple [(.lc [4] (.name 4) .plain [(.blt .sorted [(.lin 2)])] (.cmp .gt (.idx (.lin 2) (.var 4)) (.int (0))) (.tup [(.var 4), (.idx (.lin 2) (.var 4))]))])]⟩
def m_begun : MFun := ⟨1, 1, [], [
  .ret (.tup [(.idx (.idx (.var 0) (.int (0))) (.int (0))), (.tup []), (.tup [(.idx (.idx (.var 0) (.int (0))) (.int (0)))]), (.tup [])])]⟩
def m_place_of : MFun := ⟨2, 3, [], [
  .ret (.idx (.lc [2] (.name 2) .plain [(.var 0)] (.cmp .eq (.idx (.var 2) (.int (0))) (.var 1)) (.slc (.var 2) (.int (1)) .non)) (.int (0)))]⟩
def m_choices_at : MFun := ⟨2, 2, [], [
  .iff (.cmp .is_ (.idx (.var 1) (.int (0))) .non) [
    .ret (.tup [])] [],
  .ret (.idx (.call "place_of" [(.var 0), (.idx (.var 1) (.int (0)))]) (.int (1)))]⟩
def m_is_open : MFun := ⟨3, 12, [], [
  .unp [3, 4, 5, 6, 7] (.var 2),
  .unp [8, 9, 10, 11] (.var 0),
  .iff (.and (.var 7) (.cmp .isin (.tup [(.var 8), (.var 1)]) (.var 11))) [
    .ret (.bl false)] [],
  .ret (.or (.cmp .is_ (.var 4) .non) (.call "holds" [(.var 4), (.var 9), (.var 10)]))]⟩
def m_open_at : MFun := ⟨2, 4, [], [
  .ret (.blt .tuple [(.lc [2, 3] (.tup [2, 3]) .enum [(.call "choices_at" [(.var 0), (.var 1)])] (.call "is_open" [(.var 1), (.var 2), (.var 3)]) (.var 2))])]⟩
def m_after : MFun := ⟨3, 12, [], [
  .iff (.cmp .notin (.var 2) (.call "open_at" [(.var 0), (.var 1)])) [
    .raise "NoChoice"] [],
  .unp [3, 4, 5, 6, 7] (.idx (.call "choices_at" [(.var 0), (.var 1)]) (.var 2)),
  .unp [8, 9, 10, 11] (.var 1),
  .iff (.var 7) [
    .set 11 (.blt .tuple [(.blt .sorted [(.bin .add (.var 11) (.tup [(.tup [(.var 8), (.var 2)])]))])])] [],
  .iff (.and (.cmp .isnot (.var 6) .non) (.cmp .notin (.var 6) (.var 10))) [
    .set 10 (.blt .tuple [(.blt .sorted [(.bin .add (.var 10) (.tup [(.var 6)]))])])] [],
  .ret (.tup [(.var 6), (.call "done" [(.var 9), (.var 5)]), (.var 10), (.var 11)])]⟩
def m_ways_from : MFun := ⟨1, 7, [1, 3], [
  .setL 1 (.ddisp (.call "begun" [(.var 0)]) (.tup [])),
  .set 2 (.blt .list [(.lin 1)]),
  .while_ (.var 2) [
    .setL 3 (.lst []),
    .for_ (.name 4) .plain [(.var 2)] [
      .for_ (.name 5) .plain [(.call "open_at" [(.var 0), (.var 4)])] [
        .set 6 (.call "after" [(.var 0), (.var 4), (.var 5)]),
        .iff (.cmp .notin (.var 6) (.lin 1)) [
          .put 1 (.var 6) (.bin .add (.idx (.lin 1) (.var 4)) (.tup [(.var 5)])),
          .app 3 (.var 6)] []]],
    .mv 2 3],
  .ret (.lin 1)]⟩
def m_reach : MFun := ⟨1, 1, [], [
  .ret (.blt .tuple [(.call "ways_from" [(.var 0)])])]⟩
def m_is_so : MFun := ⟨2, 2, [], [
  .ret (.call "holds" [(.var 1), (.idx (.var 0) (.int (1))), (.idx (.var 0) (.int (2)))])]⟩
def m_ever : MFun := ⟨2, 3, [], [
  .ret (.blt .any [(.lc [2] (.name 2) .plain [(.call "reach" [(.var 0)])] (.bl true) (.call "is_so" [(.var 2), (.var 1)]))])]⟩
def m_always : MFun := ⟨2, 3, [], [
  .ret (.blt .all [(.lc [2] (.name 2) .plain [(.call "reach" [(.var 0)])] (.bl true) (.call "is_so" [(.var 2), (.var 1)]))])]⟩
def m_way_for : MFun := ⟨2, 5, [], [
  .set 2 (.call "ways_from" [(.var 0)]),
  .set 3 (.lc [4] (.name 4) .plain [(.var 2)] (.call "is_so" [(.var 4), (.var 1)]) (.idx (.var 2) (.var 4))),
  .iff (.nt (.var 3)) [
    .raise "NoWay"] [],
  .ret (.idx (.var 3) (.int (0)))]⟩
def m__law_mix : MFun := ⟨3, 4, [], [
  .set 3 (.bin .mod (.bin .mul (.var 0) (.int (48271))) (.var 1)),
  .ret (.bin .mod (.bin .mod (.bin .mul (.var 3) (.bin .add (.var 3) (.int (7)))) (.var 1)) (.var 2))]⟩
def m__law_test : MFun := ⟨2, 3, [], [
  .set 2 (.call "_law_mix" [(.var 0), (.int (9973)), (.int (7))]),
  .iff (.or (.cmp .lt (.var 2) (.int (3))) (.cmp .lt (.var 1) (.int (2)))) [
    .iff (.cmp .eq (.bin .mod (.var 2) (.int (2))) (.int (0))) [
      .ret (.tup [(.str "has"), (.idx (.tup [(.str "x"), (.str "y")]) (.call "_law_mix" [(.var 0), (.int (9967)), (.int (2))])), (.bin .add (.int (1)) (.call "_law_mix" [(.var 0), (.int (9949)), (.int (3))]))])] [],
    .ret (.tup [(.str "been"), (.idx (.tup [(.str "a"), (.str "b"), (.str "c"), (.str "d")]) (.call "_law_mix" [(.var 0), (.int (9941)), (.int (4))]))])] [],
  .iff (.cmp .eq (.var 2) (.int (3))) [
    .ret (.tup [(.str "not"), (.call "_law_test" [(.bin .add (.var 0) (.int (1))), (.bin .sub (.var 1) (.int (1)))])])] [],
  .ret (.tup [(.idx (.tup [(.str "and"), (.str "or")]) (.bin .mod (.var 2) (.int (2)))), (.call "_law_test" [(.bin .add (.var 0) (.int (2))), (.bin .sub (.var 1) (.int (1)))]), (.call "_law_test" [(.bin .add (.var 0) (.int (5))), (.bin .sub (.var 1) (.int (1)))])])]⟩
def m__law_places_of : MFun := ⟨1, 3, [], [
  .iff (.cmp .isin (.idx (.var 0) (.int (0))) (.tup [(.str "has"), (.str "been")])) [
    .ret (.ife (.cmp .eq (.idx (.var 0) (.int (0))) (.str "been")) (.lst [(.idx (.var 0) (.int (1)))]) (.lst []))] [],
  .set 1 (.lst []),
  .for_ (.name 2) .plain [(.slc (.var 0) (.int (1)) .non)] [
    .set 1 (.bin .add (.var 1) (.call "_law_places_of" [(.var 2)]))],
  .ret (.var 1)]⟩
def m__law_deeds : MFun := ⟨1, 5, [1], [
  .setL 1 (.lst []),
  .for_ (.name 2) .range1 [(.call "_law_mix" [(.var 0), (.int (9931)), (.int (3))])] [
    .set 3 (.bin .add (.var 0) (.bin .mul (.int (7)) (.var 2))),
    .set 4 (.idx (.tup [(.str "x"), (.str "y")]) (.call "_law_mix" [(.var 3), (.int (9929)), (.int (2))])),
    .iff (.cmp .eq (.call "_law_mix" [(.var 3), (.int (9923)), (.int (3))]) (.int (0))) [
      .app 1 (.tup [(.str "set"), (.var 4), (.call "_law_mix" [(.var 3), (.int (9907)), (.int (4))])])] [
      .app 1 (.tup [(.str "add"), (.var 4), (.bin .sub (.call "_law_mix" [(.var 3), (.int (9901)), (.int (5))]) (.int (2)))])]],
  .ret (.blt .tuple [(.lin 1)])]⟩
def m__law_choice : MFun := ⟨2, 7, [], [
  .set 2 .non,
  .iff (.cmp .eq (.call "_law_mix" [(.var 0), (.int (9883)), (.int (3))]) (.int (0))) [
    .set 2 (.call "_law_test" [(.bin .add (.var 0) (.int (1))), (.int (2))]),
    .iff (.lc [3] (.name 3) .plain [(.call "_law_places_of" [(.var 2)])] (.cmp .notin (.var 3) (.var 1)) (.var 3)) [
      .set 2 (.tup [(.str "not"), (.tup [(.str "has"), (.str "x"), (.int (1))])])] []] [],
  .set 4 (.idx (.bin .add (.var 1) (.lst [.non])) (.call "_law_mix" [(.var 0), (.int (9871)), (.bin .add (.blt .len [(.var 1)]) (.int (1)))])),
  .set 5 (.idx (.tup [(.str "yes"), (.str "no"), (.str "why?"), (.str "go on")]) (.call "_law_mix" [(.var 0), (.int (9859)), (.int (4))])),
  .set 6 (.tup []),
  .iff (.cmp .eq (.call "_law_mix" [(.var 0), (.int (9857)), (.int (3))]) (.int (0))) [
    .set 6 (.call "_law_deeds" [(.bin .add (.var 0) (.int (2)))])] [],
  .ret (.tup [(.var 5), (.var 2), (.var 6), (.var 4), (.cmp .eq (.call "_law_mix" [(.var 0), (.int (9851)), (.int (3))]) (.int (0)))])]⟩
def m__law_talk : MFun := ⟨2, 9, [3], [
  .set 2 (.slc (.lst [(.str "a"), (.str "b"), (.str "c"), (.str "d")]) .non (.bin .add (.int (1)) (.call "_law_mix" [(.var 0), (.int (9839)), (.var 1)]))),
  .setL 3 (.lst []),
  .for_ (.tup [4, 5]) .enum [(.var 2)] [
    .set 6 (.bin .add (.var 0) (.bin .mul (.int (31)) (.var 4))),
    .set 7 (.lc [8] (.name 8) .range1 [(.call "_law_mix" [(.var 6), (.int (9833)), (.int (4))])] (.bl true) (.call "_law_choice" [(.bin .add (.bin .add (.var 6) (.bin .mul (.int (11)) (.var 8))) (.int (3))), (.var 2)])),
    .app 3 (.tup [(.var 5), (.idx (.tup [(.str "hello"), (.str "well"), (.str "so be it")]) (.call "_law_mix" [(.var 6), (.int (9829)), (.int (3))])), (.blt .tuple [(.var 7)])])],
  .ret (.blt .tuple [(.lin 3)])]⟩
def m__law_of_talk : MFun := ⟨3, 7, [], [
  .set 3 (.call "_law_test" [(.var 0), (.var 2)]),
  .set 4 (.lc [5] (.name 5) .plain [(.var 1)] (.bl true) (.idx (.var 5) (.int (0)))),
  .iff (.cmp .ne (.lc [6] (.name 6) .plain [(.call "_law_places_of" [(.var 3)])] (.cmp .notin (.var 6) (.var 4)) (.var 6)) (.lst [])) [
    .ret (.tup [(.str "has"), (.idx (.tup [(.str "x"), (.str "y")]) (.call "_law_mix" [(.var 0), (.int (9433)), (.int (2))])), (.bin .add (.int (1)) (.call "_law_mix" [(.var 0), (.int (9431)), (.int (2))]))])] [],
  .ret (.var 3)]⟩
def m__law_choices : MFun := ⟨2, 5, [], [
  .for_ (.tup [2, 3, 4]) .plain [(.var 0)] [
    .iff (.cmp .eq (.var 2) (.idx (.var 1) (.int (0)))) [
      .ret (.var 4)] []],
  .ret (.tup [])]⟩
def m__law_holds : MFun := ⟨3, 7, [], [
  .iff (.cmp .eq (.idx (.var 0) (.int (0))) (.str "has")) [
    .ret (.cmp .ne (.lc [3, 4] (.tup [3, 4]) .plain [(.var 1)] (.and (.cmp .eq (.var 3) (.idx (.var 0) (.int (1)))) (.cmp .ge (.var 4) (.idx (.var 0) (.int (2))))) (.int (1))) (.lst []))] [],
  .iff (.cmp .eq (.idx (.var 0) (.int (0))) (.str "been")) [
    .ret (.cmp .isin (.idx (.var 0) (.int (1))) (.var 2))] [],
  .set 5 (.lc [6] (.name 6) .plain [(.slc (.var 0) (.int (1)) .non)] (.bl true) (.call "_law_holds" [(.var 6), (.var 1), (.var 2)])),
  .iff (.cmp .eq (.idx (.var 0) (.int (0))) (.str "not")) [
    .ret (.nt (.idx (.var 5) (.int (0))))] [],
  .ret (.idx (.lst [(.bl false), (.bl true)]) (.blt .int [(.cmp .gt (.mth .count (.var 5) [(.bl true)]) (.blt .int [(.cmp .eq (.idx (.var 0) (.int (0))) (.str "and"))]))]))]⟩
def m__law_done : MFun := ⟨2, 7, [], [
  .for_ (.tup [2, 3, 4]) .plain [(.var 1)] [
    .set 5 (.idx (.bin .add (.lc [6] (.name 6) .plain [(.var 0)] (.cmp .eq (.idx (.var 6) (.int (0))) (.var 3)) (.idx (.var 6) (.int (1)))) (.lst [(.int (0))])) (.int (0))),
    .iff (.cmp .eq (.var 2) (.str "add")) [
      .set 4 (.idx (.blt .sorted [(.lst [(.int (0)), (.bin .add (.var 5) (.var 4)), (.int (3))])]) (.int (1)))] [],
    .set 0 (.bin .add (.lc [6] (.name 6) .plain [(.var 0)] (.cmp .ne (.idx (.var 6) (.int (0))) (.var 3)) (.var 6)) (.bin .mul (.lst [(.tup [(.var 3), (.var 4)])]) (.blt .int [(.cmp .gt (.var 4) (.int (0)))])))],
  .ret (.blt .tuple [(.blt .sorted [(.var 0)])])]⟩
def m__law_open : MFun := ⟨2, 9, [2], [
  .setL 2 (.lst []),
  .for_ (.nest 3 [4, 5, 6, 7, 8]) .enum [(.call "_law_choices" [(.var 0), (.var 1)])] [
    .iff (.and (.or (.cmp .is_ (.var 5) .non) (.call "_law_holds" [(.var 5), (.idx (.var 1) (.int (1))), (.idx (.var 1) (.int (2)))])) (.or (.nt (.var 8)) (.cmp .notin (.tup [(.idx (.var 1) (.int (0))), (.var 3)]) (.idx (.var 1) (.int (3)))))) [
      .app 2 (.var 3)] []],
  .ret (.blt .tuple [(.lin 2)])]⟩
def m__law_begun : MFun := ⟨1, 1, [], [
  .ret (.tup [(.idx (.idx (.var 0) (.int (0))) (.int (0))), (.tup []), (.tup [(.idx (.idx (.var 0) (.int (0))) (.int (0)))]), (.tup [])])]⟩
def m__law_after : MFun := ⟨3, 10, [], [
  .unp [3, 4, 5, 6, 7] (.idx (.call "_law_choices" [(.var 0), (.var 1)]) (.var 2)),
  .set 8 (.blt .sortset [(.bin .add (.blt .list [(.idx (.var 1) (.int (2)))]) (.bin .mul (.lst [(.var 6)]) (.blt .int [(.cmp .isnot (.var 6) .non)])))]),
  .set 9 (.blt .sorted [(.bin .add (.blt .list [(.idx (.var 1) (.int (3)))]) (.bin .mul (.lst [(.tup [(.idx (.var 1) (.int (0))), (.var 2)])]) (.blt .int [(.var 7)])))]),
  .ret (.tup [(.var 6), (.call "_law_done" [(.idx (.var 1) (.int (1))), (.var 5)]), (.blt .tuple [(.var 8)]), (.blt .tuple [(.var 9)])])]⟩
def m__law_reach : MFun := ⟨1, 6, [1, 2], [
  .setL 1 (.ddisp (.call "_law_begun" [(.var 0)]) (.tup [])),
  .setL 2 (.blt .list [(.lin 1)]),
  .while_ (.lin 2) [
    .pop0 3 2,
    .for_ (.name 4) .plain [(.call "_law_open" [(.var 0), (.var 3)])] [
      .set 5 (.call "_law_after" [(.var 0), (.var 3), (.var 4)]),
      .iff (.cmp .notin (.var 5) (.lin 1)) [
        .put 1 (.var 5) (.bin .add (.idx (.lin 1) (.var 3)) (.tup [(.var 4)])),
        .app 2 (.var 5)] []]],
  .ret (.lin 1)]⟩
def m__law_is_so : MFun := ⟨2, 2, [], [
  .ret (.call "_law_holds" [(.var 1), (.idx (.var 0) (.int (1))), (.idx (.var 0) (.int (2)))])]⟩
def m__law_way : MFun := ⟨2, 4, [], [
  .try_ 2 [("TalkError", true, [("TalkError", true), ("NoChoice", false), ("NoWay", false), ("NoStep", false), ("NoText", false), ("NoPlace", false), ("BadTalk", false), ("ValueError", true)]), ("NoChoice", true, [("TalkError", true), ("NoChoice", true), ("NoWay", false), ("NoStep", false), ("NoText", false), ("NoPlace", false), ("BadTalk", false), ("ValueError", true)]), ("NoWay", true, [("TalkError", true), ("NoChoice", false), ("NoWay", true), ("NoStep", false), ("NoText", false), ("NoPlace", false), ("BadTalk", false), ("ValueError", true)]), ("NoStep", true, [("TalkError", true), ("NoChoice", false), ("NoWay", false), ("NoStep", true), ("NoText", false), ("NoPlace", false), ("BadTalk", false), ("ValueError", true)]), ("NoText", true, [("TalkError", true), ("NoChoice", false), ("NoWay", false), ("NoStep", false), ("NoText", true), ("NoPlace", false), ("BadTalk", false), ("ValueError", true)]), ("NoPlace", true, [("TalkError", true), ("NoChoice", false), ("NoWay", false), ("NoStep", false), ("NoText", false), ("NoPlace", true), ("BadTalk", false), ("ValueError", true)]), ("BadTalk", true, [("TalkError", true), ("NoChoice", false), ("NoWay", false), ("NoStep", false), ("NoText", false), ("NoPlace", false), ("BadTalk", true), ("ValueError", true)])] [
    .ret (.call "way_for" [(.var 0), (.var 1)])] [
    .set 3 (.or (.call "isinstance" [(.str "NoChoice")]) (.or (.call "isinstance" [(.str "NoStep")]) (.call "isinstance" [(.str "NoText")]))),
    .set 3 (.or (.var 3) (.or (.call "isinstance" [(.str "NoPlace")]) (.call "isinstance" [(.str "BadTalk")]))),
    .ret (.ife (.and (.call "isinstance" [(.str "NoWay")]) (.and (.call "isinstance" [(.str "ValueError")]) (.nt (.var 3)))) (.str "none") (.str "wrong"))]]⟩
def m_law : MFun := ⟨1, 11, [], [
  .for_ (.name 1) .range1 [(.int (12))] [
    .set 2 (.bin .add (.call "_law_cell" [(.bin .mod (.var 1) (.int (9)))]) (.bin .mul (.int (31)) (.var 1))),
    .set 3 (.call "_law_talk" [(.var 2), (.int (4))]),
    .set 4 (.call "_law_reach" [(.var 3)]),
    .for_ (.name 5) .range1 [(.int (4))] [
      .set 6 (.call "_law_of_talk" [(.bin .add (.var 2) (.bin .mul (.int (7)) (.var 5))), (.var 3), (.int (2))]),
      .set 7 (.lc [8] (.name 8) .plain [(.var 4)] (.call "_law_is_so" [(.var 8), (.var 6)]) (.var 8)),
      .iff (.or (.cmp .ne (.call "ever" [(.var 3), (.var 6)]) (.cmp .ne (.var 7) (.lst []))) (.cmp .ne (.call "always" [(.var 3), (.var 6)]) (.cmp .eq (.blt .len [(.var 7)]) (.blt .len [(.var 4)])))) [
        .ret (.bl false)] [],
      .iff (.or (.cmp .ne (.call "always" [(.var 3), (.tup [(.str "not"), (.var 6)])]) (.cmp .eq (.var 7) (.lst []))) (.cmp .ne (.call "ever" [(.var 3), (.tup [(.str "not"), (.var 6)])]) (.cmp .lt (.blt .len [(.var 7)]) (.blt .len [(.var 4)])))) [
        .ret (.bl false)] [],
      .set 9 (.blt .sorted [(.lc [8] (.name 8) .plain [(.var 7)] (.bl true) (.tup [(.blt .len [(.idx (.var 4) (.var 8))]), (.idx (.var 4) (.var 8))]))]),
      .set 10 (.ife (.cmp .eq (.var 9) (.lst [])) (.str "none") (.idx (.idx (.var 9) (.int (0))) (.int (1)))),
      .iff (.cmp .ne (.call "_law_way" [(.var 3), (.var 6)]) (.var 10)) [
        .ret (.bl false)] []]],
  .ret (.bl true)]⟩
def r_holds : FRow := ⟨"holds", top 2, ["test", "book", "been"], m_holds⟩
def r_done : FRow := ⟨"done", top 3, ["book", "deeds", "held", "word", "name", "number"], m_done⟩
def r_begun : FRow := ⟨"begun", top 13, ["talk"], m_begun⟩
def r_place_of : FRow := ⟨"place_of", top 14, ["talk", "name", "place"], m_place_of⟩
def r_choices_at : FRow := ⟨"choices_at", top 15, ["talk", "stand"], m_choices_at⟩
def r_is_open : FRow := ⟨"is_open", top 16, ["stand", "number", "choice", "line", "test", "deeds", "goal", "is_once", "place", "book", "been", "taken"], m_is_open⟩
def r_open_at : FRow := ⟨"open_at", top 17, ["talk", "stand", "k", "choice"], m_open_at⟩
def r_after : FRow := ⟨"after", top 18, ["talk", "stand", "number", "line", "test", "deeds", "goal", "is_once", "place", "book", "been", "taken"], m_after⟩
def r_ways_from : FRow := ⟨"ways_from", top 20, ["talk", "found", "row", "later", "stand", "number", "new"], m_ways_from⟩
def r_reach : FRow := ⟨"reach", top 21, ["talk"], m_reach⟩
def r_is_so : FRow := ⟨"is_so", top 23, ["stand", "test"], m_is_so⟩
def r_ever : FRow := ⟨"ever", top 24, ["talk", "test", "stand"], m_ever⟩
def r_always : FRow := ⟨"always", top 25, ["talk", "test", "stand"], m_always⟩
def r_way_for : FRow := ⟨"way_for", top 26, ["talk", "test", "ways", "some", "stand"], m_way_for⟩
def r__law_mix : FRow := ⟨"_law_mix", top 29, ["cell", "prime", "many", "blend"], m__law_mix⟩
def r__law_test : FRow := ⟨"_law_test", top 30, ["cell", "deep", "way"], m__law_test⟩
def r__law_places_of : FRow := ⟨"_law_places_of", top 31, ["test", "found", "part"], m__law_places_of⟩
def r__law_deeds : FRow := ⟨"_law_deeds", top 32, ["cell", "found", "k", "seed", "name"], m__law_deeds⟩
def r__law_choice : FRow := ⟨"_law_choice", top 33, ["cell", "names", "test", "name", "goal", "line", "deeds"], m__law_choice⟩
def r__law_talk : FRow := ⟨"_law_talk", top 34, ["cell", "most", "names", "found", "k", "name", "seed", "choices", "j"], m__law_talk⟩
def r__law_of_talk : FRow := ⟨"_law_of_talk", top 35, ["cell", "talk", "deep", "test", "names", "place", "name"], m__law_of_talk⟩
def r__law_choices : FRow := ⟨"_law_choices", top 36, ["talk", "stand", "name", "line", "choices"], m__law_choices⟩
def r__law_holds : FRow := ⟨"_law_holds", top 37, ["test", "book", "been", "name", "number", "parts", "part"], m__law_holds⟩
def r__law_done : FRow := ⟨"_law_done", top 38, ["book", "deeds", "word", "name", "number", "old", "one"], m__law_done⟩
def r__law_open : FRow := ⟨"_law_open", top 39, ["talk", "stand", "found", "k", "line", "test", "deeds", "goal", "is_once"], m__law_open⟩
def r__law_begun : FRow := ⟨"_law_begun", top 40, ["talk"], m__law_begun⟩
def r__law_after : FRow := ⟨"_law_after", top 41, ["talk", "stand", "k", "line", "test", "deeds", "goal", "is_once", "been", "taken"], m__law_after⟩
def r__law_reach : FRow := ⟨"_law_reach", top 42, ["talk", "found", "left", "stand", "k", "new"], m__law_reach⟩
def r__law_is_so : FRow := ⟨"_law_is_so", top 44, ["stand", "test"], m__law_is_so⟩
def r__law_way : FRow := ⟨"_law_way", top 45, ["talk", "test", "e", "others"], m__law_way⟩
def r_law : FRow := ⟨"law", top 46, ["script", "k", "cell", "talk", "every", "turn", "test", "some", "stand", "ways", "due"], m_law⟩
def rows : List FRow := [r_holds, r_done, r_begun, r_place_of, r_choices_at, r_is_open, r_open_at, r_after, r_ways_from, r_reach, r_is_so, r_ever, r_always, r_way_for, r__law_mix, r__law_test, r__law_places_of, r__law_deeds, r__law_choice, r__law_talk, r__law_of_talk, r__law_choices, r__law_holds, r__law_done, r__law_open, r__law_begun, r__law_after, r__law_reach, r__law_is_so, r__law_way]
theorem ok_holds : FRowOk rows cons exs r_holds := ⟨by kernel_rfl, by kernel_rfl, by kernel_rfl, fun _ _ _ _ _ _ us hl => match us, hl with | [_, _, _], _ => rfl⟩
theorem ok_done : FRowOk rows cons exs r_done := ⟨by kernel_rfl, by kernel_rfl, by kernel_rfl, fun _ _ _ _ _ _ us hl => match us, hl with | [_, _], _ => rfl⟩
theorem ok_begun : FRowOk rows cons exs r_begun := ⟨by kernel_rfl, by kernel_rfl, by kernel_rfl, fun _ _ _ _ _ _ us hl => match us, hl with | [_], _ => rfl⟩
theorem ok_place_of : FRowOk rows cons exs r_place_of := ⟨by kernel_rfl, by kernel_rfl, by kernel_rfl, fun _ _ _ _ _ _ us hl => match us, hl with | [_, _], _ => rfl⟩
theorem ok_choices_at : FRowOk rows cons exs r_choices_at := ⟨by kernel_rfl, by kernel_rfl, by kernel_rfl, fun _ _ _ _ _ _ us hl => match us, hl with | [_, _], _ => rfl⟩
theorem ok_is_open : FRowOk rows cons exs r_is_open := ⟨by kernel_rfl, by kernel_rfl, by kernel_rfl, fun _ _ _ _ _ _ us hl => match us, hl with | [_, _, _], _ => rfl⟩
theorem ok_open_at : FRowOk rows cons exs r_open_at := ⟨by kernel_rfl, by kernel_rfl, by kernel_rfl, fun _ _ _ _ _ _ us hl => match us, hl with | [_, _], _ => rfl⟩
theorem ok_after : FRowOk rows cons exs r_after := ⟨by kernel_rfl, by kernel_rfl, by kernel_rfl, fun _ _ _ _ _ _ us hl => match us, hl with | [_, _, _], _ => rfl⟩
theorem ok_ways_from : FRowOk rows cons exs r_ways_from := ⟨by kernel_rfl, by kernel_rfl, by kernel_rfl, fun _ _ _ _ _ _ us hl => match us, hl with | [_], _ => rfl⟩
theorem ok_reach : FRowOk rows cons exs r_reach := ⟨by kernel_rfl, by kernel_rfl, by kernel_rfl, fun _ _ _ _ _ _ us hl => match us, hl with | [_], _ => rfl⟩
theorem ok_is_so : FRowOk rows cons exs r_is_so := ⟨by kernel_rfl, by kernel_rfl, by kernel_rfl, fun _ _ _ _ _ _ us hl => match us, hl with | [_, _], _ => rfl⟩
theorem ok_ever : FRowOk rows cons exs r_ever := ⟨by kernel_rfl, by kernel_rfl, by kernel_rfl, fun _ _ _ _ _ _ us hl => match us, hl with | [_, _], _ => rfl⟩
theorem ok_always : FRowOk rows cons exs r_always := ⟨by kernel_rfl, by kernel_rfl, by kernel_rfl, fun _ _ _ _ _ _ us hl => match us, hl with | [_, _], _ => rfl⟩
theorem ok_way_for : FRowOk rows cons exs r_way_for := ⟨by kernel_rfl, by kernel_rfl, by kernel_rfl, fun _ _ _ _ _ _ us hl => match us, hl with | [_, _], _ => rfl⟩
theorem ok__law_mix : FRowOk rows cons exs r__law_mix := ⟨by kernel_rfl, by kernel_rfl, by kernel_rfl, fun _ _ _ _ _ _ us hl => match us, hl with | [_, _, _], _ => rfl⟩
theorem ok__law_test : FRowOk rows cons exs r__law_test := ⟨by kernel_rfl, by kernel_rfl, by kernel_rfl, fun _ _ _ _ _ _ us hl => match us, hl with | [_, _], _ => rfl⟩
theorem ok__law_places_of : FRowOk rows cons exs r__law_places_of := ⟨by kernel_rfl, by kernel_rfl, by kernel_rfl, fun _ _ _ _ _ _ us hl => match us, hl with | [_], _ => rfl⟩
theorem ok__law_deeds : FRowOk rows cons exs r__law_deeds := ⟨by kernel_rfl, by kernel_rfl, by kernel_rfl, fun _ _ _ _ _ _ us hl => match us, hl with | [_], _ => rfl⟩
theorem ok__law_choice : FRowOk rows cons exs r__law_choice := ⟨by kernel_rfl, by kernel_rfl, by kernel_rfl, fun _ _ _ _ _ _ us hl => match us, hl with | [_, _], _ => rfl⟩
theorem ok__law_talk : FRowOk rows cons exs r__law_talk := ⟨by kernel_rfl, by kernel_rfl, by kernel_rfl, fun _ _ _ _ _ _ us hl => match us, hl with | [_, _], _ => rfl⟩
theorem ok__law_of_talk : FRowOk rows cons exs r__law_of_talk := ⟨by kernel_rfl, by kernel_rfl, by kernel_rfl, fun _ _ _ _ _ _ us hl => match us, hl with | [_, _, _], _ => rfl⟩
theorem ok__law_choices : FRowOk rows cons exs r__law_choices := ⟨by kernel_rfl, by kernel_rfl, by kernel_rfl, fun _ _ _ _ _ _ us hl => match us, hl with | [_, _], _ => rfl⟩
theorem ok__law_holds : FRowOk rows cons exs r__law_holds := ⟨by kernel_rfl, by kernel_rfl, by kernel_rfl, fun _ _ _ _ _ _ us hl => match us, hl with | [_, _, _], _ => rfl⟩
theorem ok__law_done : FRowOk rows cons exs r__law_done := ⟨by kernel_rfl, by kernel_rfl, by kernel_rfl, fun _ _ _ _ _ _ us hl => match us, hl with | [_, _], _ => rfl⟩
theorem ok__law_open : FRowOk rows cons exs r__law_open := ⟨by kernel_rfl, by kernel_rfl, by kernel_rfl, fun _ _ _ _ _ _ us hl => match us, hl with | [_, _], _ => rfl⟩
theorem ok__law_begun : FRowOk rows cons exs r__law_begun := ⟨by kernel_rfl, by kernel_rfl, by kernel_rfl, fun _ _ _ _ _ _ us hl => match us, hl with | [_], _ => rfl⟩
theorem ok__law_after : FRowOk rows cons exs r__law_after := ⟨by kernel_rfl, by kernel_rfl, by kernel_rfl, fun _ _ _ _ _ _ us hl => match us, hl with | [_, _, _], _ => rfl⟩
theorem ok__law_reach : FRowOk rows cons exs r__law_reach := ⟨by kernel_rfl, by kernel_rfl, by kernel_rfl, fun _ _ _ _ _ _ us hl => match us, hl with | [_], _ => rfl⟩
theorem ok__law_is_so : FRowOk rows cons exs r__law_is_so := ⟨by kernel_rfl, by kernel_rfl, by kernel_rfl, fun _ _ _ _ _ _ us hl => match us, hl with | [_, _], _ => rfl⟩
theorem ok__law_way : FRowOk rows cons exs r__law_way := ⟨by kernel_rfl, by kernel_rfl, by kernel_rfl, fun _ _ _ _ _ _ us hl => match us, hl with | [_, _], _ => rfl⟩
theorem ok_all : ∀ r ∈ rows, FRowOk rows cons exs r := by
  intro r hr
  simp only [rows, List.mem_cons, List.not_mem_nil, or_false] at hr
  rcases hr with rfl | rfl | rfl | rfl | rfl | rfl | rfl | rfl | rfl | rfl | rfl | rfl | rfl | rfl | rfl | rfl | rfl | rfl | rfl | rfl | rfl | rfl | rfl | rfl | rfl | rfl | rfl | rfl | rfl | rfl
  · exact ok_holds
  · exact ok_done
  · exact ok_begun
  · exact ok_place_of
  · exact ok_choices_at
  · exact ok_is_open
  · exact ok_open_at
  · exact ok_after
  · exact ok_ways_from
  · exact ok_reach
  · exact ok_is_so
  · exact ok_ever
  · exact ok_always
  · exact ok_way_for
  · exact ok__law_mix
  · exact ok__law_test
  · exact ok__law_places_of
  · exact ok__law_deeds
  · exact ok__law_choice
  · exact ok__law_talk
  · exact ok__law_of_talk
  · exact ok__law_choices
  · exact ok__law_holds
  · exact ok__law_done
  · exact ok__law_open
  · exact ok__law_begun
  · exact ok__law_after
  · exact ok__law_reach
  · exact ok__law_is_so
  · exact ok__law_way
theorem ok_law : LRowOk rows cons exs r_law := ⟨by kernel_rfl, by kernel_rfl, by kernel_rfl⟩
end K34
set_option Elab.async false
set_option linter.all false
set_option maxRecDepth 100000
set_option maxHeartbeats 0
/-! the head of the law -/
namespace K34
open BT PySem PySem.Spec PyProof.Rows L2
def dd (r : FRow) : He.DefD := ⟨(r.name, none), r.name, r.name, defArgs r.st, defBody r.st, defScope r.st, [], []⟩
def sCell : Stmt := top 28
def dCell : He.DefD := ⟨("_law_cell", none), "_law_cell", "_law_cell", defArgs sCell, defBody sCell, defScope sCell, [], []⟩
def fnL : List He.DefD := dd r_law :: dCell :: rows.map dd
def faC : List He.Fa := [.int "MOST" (3)]
def faL : List He.Fa := .glo "law" :: .glo "_law_cell" :: (rows.map fun r => .glo r.name) ++ bltNames.map .free ++ faC
abbrev RowR : PySem.W.OpenRow := PySem.W.OpenLaw.row PySem.Challenge.rw_branchtalk_k34_whole_ever_and_always
abbrev hk : PySem.W.Hook := hookX 4 faL fnL exs
def ob (s : PySem.W.SharedT) : He.AlD × Bool := obX 4 faL fnL exs (HandSHeadRun.getT s)
theorem ob_eq (s : PySem.W.SharedT) : ob s = hk.obs s.abs := obX_eq (HandSHeadRun.getT_eq s)
def loose : List Str := [(("MOST" : String) : Str), (("holds" : String) : Str), (("done" : String) : Str), (("TalkError" : String) : Str), (("NoChoice" : String) : Str), (("NoWay" : String) : Str), (("NoStep" : String) : Str), (("NoText" : String) : Str), (("NoPlace" : String) : Str), (("BadTalk" : String) : Str), (("begun" : String) : Str), (("place_of" : String) : Str), (("choices_at" : String) : Str), (("is_open" : String) : Str), (("open_at" : String) : Str), (("after" : String) : Str), (("ways_from" : String) : Str), (("reach" : String) : Str), (("is_so" : String) : Str), (("ever" : String) : Str), (("always" : String) : Str), (("way_for" : String) : Str), (("_law_cell" : String) : Str), (("_law_mix" : String) : Str), (("_law_test" : String) : Str), (("_law_places_of" : String) : Str), (("_law_deeds" : String) : Str), (("_law_choice" : String) : Str), (("_law_talk" : String) : Str), (("_law_of_talk" : String) : Str), (("_law_choices" : String) : Str), (("_law_holds" : String) : Str), (("_law_done" : String) : Str), (("_law_open" : String) : Str), (("_law_begun" : String) : Str), (("_law_after" : String) : Str), (("_law_reach" : String) : Str), (("_law_nexts" : String) : Str), (("_law_is_so" : String) : Str), (("_law_way" : String) : Str)]
theorem run (w : World) : HandSHeadRun.RunEq RowR (PySem.W.view RowR.prog [46]) hk ob 4000 loose w := by
  intro os
  kernel_rfl
theorem hcons {P : Program} {w : World} {K : PySem.W.Frag} {h : Heap} {mg : Str → Option Value} (X : K.In h) (G : h.Ns mainGlobals mg) (c : He.SaysD faL fnL K) :
    ∀ x m, cons.lookup x = some m → ∃ u v d, mg x = some u ∧ L2.RelV v u ∧ (∀ H bd, Rep P w H bd v d) ∧ m.isLin = false ∧ ∀ C r, ev C m r = .ok d := by
  have fa : ∀ f ∈ faC, f.ok K = true := fun f hf => c.facts (List.mem_append_right _ hf)
  intro x m e
  by_cases hx : x = "MOST"
  · subst hx
    have hm : m = .int (3) := by
      have : cons.lookup ("MOST" : Str) = some (.int (3)) := by rfl
      rw [this] at e; exact (Option.some.inj e).symm
    subst hm
    obtain ⟨t, e1⟩ := He.int_ok X G (fa (.int "MOST" (3)) (by simp [faC]))
    exact ⟨_, .int (3), .int (3), e1, ⟨_, rfl⟩, fun _ _ => .int _, rfl, fun C r => by simp only [ev]⟩
  exfalso
  have : cons.lookup x = none := by
    rw [List.lookup_eq_none_iff]
    intro p hp
    simp only [cons, List.mem_cons, List.not_mem_nil, or_false] at hp
    rcases hp with rfl <;> (rw [bne_iff_ne]; assumption)
  rw [this] at e; cases e
theorem facts {P : Program} {w : World} {K : PySem.W.Frag} {h : Heap} {mg : Str → Option Value} {f : Addr} (X : K.In h) (G : h.Ns mainGlobals mg) (hfa : mg ("law" : Str) = some (.ref f)) (c : He.SaysD faL fnL K) (cx : exsB exs K = true) (wf k : Nat) :
    ∃ fd : FuncData, (∀ (s : Shared) (v : Value), BindsTo s fd ⟨[v], []⟩ [("script", v)]) ∧ ∀ base : Heap, K.In base → base.Ns mainGlobals mg → FnOk P w K mg base (L2.CX P w) (k + 2) f fd ["script"] (spLaw K (lawRes rows r_law wf (k + 1))) := by
  obtain ⟨fd, F⟩ := c.def_ 0 (d := dd r_law) rfl
  obtain ⟨fdc, FC⟩ := c.def_ 1 (d := dCell) rfl
  have e := hfa.symm.trans (He.glo_ok X G (c.fact 0 (f := .glo "law") rfl))
  cases e
  have b := FunD.bindsA (ps := ["script"]) F fun _ _ _ _ _ _ us hl => match us, hl with | [_], _ => rfl
  refine ⟨fd, fun s v => b s [v] rfl, fun base _ _ => law_fn (exs_ok X G cx) (fun r hr => ?_) ok_all (fun x hx => ?_) (hcons X G c) F ok_law FC (by kernel_rfl) (by kernel_rfl) rfl (He.glo_ok X G (c.fact 1 (f := .glo "_law_cell") rfl)) fun _ _ _ _ _ _ us hl => match us, hl with | [_, _], _ => rfl⟩
  · obtain ⟨fd2, F2⟩ := c.defs (d := dd r) (.tail _ (.tail _ (List.mem_map_of_mem hr)))
    exact ⟨_, fd2, F2, He.glo_ok X G (c.facts (f := .glo r.name) (List.mem_append_left _ (List.mem_append_left _ (.tail _ (.tail _ (List.mem_map_of_mem (f := fun r : FRow => He.Fa.glo r.name) hr))))))⟩
  · exact He.free_ok X G (c.facts (f := .free x) (List.mem_append_left _ (List.mem_append_right _ (List.mem_map_of_mem (f := He.Fa.free) hx))))
end K34
open PySem PySem.W PySem.Calls PyProof.Rows in
theorem K34.holds (wf k : Nat) (hr : L2.Room (k + 2) callerA) (pure_law : ∀ ns : List Int, ns.length ≤ 63 → BT.lawRes K34.rows K34.r_law wf (k + 1) ns = .ok (.bool true)) : PySem.Challenge.rw_branchtalk_k34_whole_ever_and_always.Holds := by
  w_on; o_law
  refine HandSHeadRun.head_any (r := OpenLaw.row PySem.Challenge.rw_branchtalk_k34_whole_ever_and_always) (q := view (OpenLaw.row PySem.Challenge.rw_branchtalk_k34_whole_ever_and_always).prog [46]) (H := K34.hk) (ob := K34.ob) (M := 4000) (loose := K34.loose) (d := HandSHeadRun.topDef (OpenLaw.row PySem.Challenge.rw_branchtalk_k34_whole_ever_and_always).prog 46) (kwd := []) K34.ob_eq
    (by kernel_rfl) (fun s => by kernel_rfl) K34.run (by kernel_rfl) (by kernel_rfl) (by kernel_rfl) (by rfl) (by first | assumption | decide +kernel) (by decide +kernel) ⟨rfl, rfl, rfl, rfl, rfl, by decide +kernel⟩ ?hw ?hc
  case hw => w_witness2
  case hc =>
    refine BT.walk_end (l := PySem.Challenge.rw_branchtalk_k34_whole_ever_and_always) (n := 63) (k := k + 2) (x := "script") rfl (by decide) (by kernel_rfl) hr ?F
    intro w mg a0 h Y G hmg0
    obtain ⟨K, KX, c, cx⟩ := Y
    have hmg : mg ("law" : PySem.Str) = some (.ref a0) := by
      have e : (HandSHeadRun.topDef (OpenLaw.row PySem.Challenge.rw_branchtalk_k34_whole_ever_and_always).prog 46).name = ("law" : PySem.Str) := by kernel_rfl
      rw [← e]
      exact hmg0
    obtain ⟨fd, hb, hF⟩ := K34.facts (P := (PySem.Challenge.rw_branchtalk_k34_whole_ever_and_always).prog) (w := w) KX G hmg c cx wf k
    exact ⟨K, fd, BT.spLaw K (BT.lawRes K34.rows K34.r_law wf (k + 1)), KX, hb, fun H a ns hl hO hS => ⟨a, ns, rfl, hO, hS, pure_law ns hl, fun _ => rfl⟩, hF⟩
set_option Elab.async false
set_option linter.all false
set_option maxRecDepth 100000
set_option maxHeartbeats 4000000
namespace K34
open BT PySem
abbrev T : Tab := tabOf rows
instance : Has T "holds" Q.m_holds := ⟨by kernel_rfl⟩
instance : Has T "done" Q.m_done := ⟨by kernel_rfl⟩
instance : Has T "begun" Q.m_begun := ⟨by kernel_rfl⟩
instance : Has T "place_of" Q.m_place_of := ⟨by kernel_rfl⟩
instance : Has T "choices_at" Q.m_choices_at := ⟨by kernel_rfl⟩
instance : Has T "is_open" Q.m_is_open := ⟨by kernel_rfl⟩
instance : Has T "open_at" Q.m_open_at := ⟨by kernel_rfl⟩
instance : Has T "after" Q.m_after := ⟨by kernel_rfl⟩
instance : Has T "ways_from" Q.m_ways_from := ⟨by kernel_rfl⟩
instance : Has T "reach" Q.m_reach := ⟨by kernel_rfl⟩
instance : Has T "is_so" Q.m_is_so := ⟨by kernel_rfl⟩
instance : Has T "ever" Q.m_ever := ⟨by kernel_rfl⟩
instance : Has T "always" Q.m_always := ⟨by kernel_rfl⟩
instance : Has T "way_for" Q.m_way_for := ⟨by kernel_rfl⟩
instance : Has T "_law_mix" Q.m__law_mix := ⟨by kernel_rfl⟩
instance : Has T "_law_test" Q.m__law_test := ⟨by kernel_rfl⟩
instance : Has T "_law_places_of" Q.m__law_places_of := ⟨by kernel_rfl⟩
instance : Has T "_law_deeds" Q.m__law_deeds := ⟨by kernel_rfl⟩
instance : Has T "_law_choice" Q.m__law_choice := ⟨by kernel_rfl⟩
instance : Has T "_law_talk" Q.m__law_talk := ⟨by kernel_rfl⟩
instance : Has T "_law_of_talk" Q.m__law_of_talk := ⟨by kernel_rfl⟩
instance : Has T "_law_choices" Q.m__law_choices := ⟨by kernel_rfl⟩
instance : Has T "_law_holds" Q.m__law_holds := ⟨by kernel_rfl⟩
instance : Has T "_law_done" Q.m__law_done := ⟨by kernel_rfl⟩
instance : Has T "_law_open" Q.m__law_open := ⟨by kernel_rfl⟩
instance : Has T "_law_begun" Q.m__law_begun := ⟨by kernel_rfl⟩
instance : Has T "_law_after" Q.m__law_after := ⟨by kernel_rfl⟩
instance : Has T "_law_reach" Q.m__law_reach := ⟨by kernel_rfl⟩
instance : Has T "_law_is_so" Q.m__law_is_so := ⟨by kernel_rfl⟩
instance : Has T "_law_way" m__law_way := ⟨by kernel_rfl⟩
theorem noCell : T.lookup ("_law_cell" : Str) = none := by kernel_rfl
variable {wf k : Nat} {nat : CallF} {t : Talk}
def rowNW : List (Str × Bool) := [("TalkError", true), ("NoChoice", false), ("NoWay", true), ("NoStep", false), ("NoText", false), ("NoPlace", false), ("BadTalk", false), ("ValueError", true)]
def tb : List (Str × Bool × List (Str × Bool)) := match m__law_way.body.getD 0 .pass with
  | .try_ _ tbl _ _ => tbl
  | _ => []
def su : List MS := [.set 3 (.or (.call "isinstance" [(.str "NoChoice")]) (.or (.call "isinstance" [(.str "NoStep")]) (.call "isinstance" [(.str "NoText")]))),
    .set 3 (.or (.var 3) (.or (.call "isinstance" [(.str "NoPlace")]) (.call "isinstance" [(.str "BadTalk")]))),
    .ret (.ife (.and (.call "isinstance" [(.str "NoWay")]) (.and (.call "isinstance" [(.str "ValueError")]) (.nt (.var 3)))) (.str "none") (.str "wrong"))]
theorem tb_nw : tb.lookup ("NoWay" : Str) = some (true, rowNW) := by decide +kernel
theorem isx {C : CallF} {y : Str} {b : Bool} (h : rowNW.lookup y = some b) : isC rowNW C "isinstance" [.str y] = .ok (.bool b) := by
  simp [isC, h]
theorem su_ok {C : CallF} (x0 x1 x3 : Option D) : evH (isC rowNW C) su [x0, x1, none, x3] = .rt (.str "none") := by
  have i1 := isx (C := C) (y := "NoStep") (b := false) (by decide +kernel)
  have i2 := isx (C := C) (y := "NoText") (b := false) (by decide +kernel)
  have i3 := isx (C := C) (y := "NoChoice") (b := false) (by decide +kernel)
  have i4 := isx (C := C) (y := "NoWay") (b := true) (by decide +kernel)
  have i5 := isx (C := C) (y := "NoPlace") (b := false) (by decide +kernel)
  have i6 := isx (C := C) (y := "BadTalk") (b := false) (by decide +kernel)
  have i7 := isx (C := C) (y := "ValueError") (b := true) (by decide +kernel)
  simp [su, evH, i1, i2, i3, i4, i5, i6, i7]
def bT : List MS := [.ret (.call "way_for" [(.var 0), (.var 1)])]
theorem told_hb : m__law_way.body = [.try_ 2 tb bT su] := rfl
def wayD (g : Fd Sd) (u : Tst) : D := match soAt g u with
  | [] => .str "none"
  | p :: _ => nsD p.2
theorem way_ok {g : Fd Sd} {u : Tst} (e : callN T wf nat k "way_for" [tkD t, u.enc] = match soAt g u with | [] => .exc "NoWay" | p :: _ => .ok (nsD p.2)) : callN T wf nat (k + 1) "_law_way" [tkD t, u.enc] = .ok (wayD g u) := by
  rw [call_has, run_ok rfl, told_hb, show startE m__law_way [tkD t, u.enc] = [some (tkD t), some u.enc, none, none] from rfl]
  unfold wayD
  cases h : soAt g u with
  | nil =>
    rw [h] at e
    have eb : evSs (callN T wf nat k) wf bT [some (tkD t), some u.enc, none, none] = .exc "NoWay" [some (tkD t), some u.enc, none, none] := by simp [bT, e]
    have es := su_ok (C := callN T wf nat k) (some (tkD t)) (some u.enc) none
    generalize bT = B at eb ⊢
    generalize su = S at es ⊢
    have et := tb_nw
    generalize tb = TB at et ⊢
    simp [eS_try_, eb, tryF, et, es, F.env]
  | cons p ps =>
    rw [h] at e
    have eb : evSs (callN T wf nat k) wf bT [some (tkD t), some u.enc, none, none] = .rt (nsD p.2) := by simp [bT, e]
    generalize bT = B at eb ⊢
    simp [eS_try_, eb, tryF]
structure Kn (C : CallF) (t : Talk) (g : Fd Sd) : Prop where
  ne : g ≠ []
  nd : (g.map Prod.fst).Nodup
  rise : (g.map Prod.snd).Pairwise wlt
  reach : C "_law_reach" [tkD t] = .ok (fdD g)
  draw : ∀ c : Int, ∃ u : Tst, u.gen ∧ u.dep ≤ 2 ∧ C "_law_of_talk" [.int c, tkD t, .int 2] = .ok u.enc
  lso : ∀ u : Tst, u.pos → u.dep ≤ 3 → ∀ p ∈ g, C "_law_is_so" [p.1.enc, u.enc] = .ok (.bool (so u p.1))
  ever : ∀ u : Tst, u.dep ≤ 3 → C "ever" [tkD t, u.enc] = .ok (.bool (g.any fun p => so u p.1))
  always : ∀ u : Tst, u.dep ≤ 3 → C "always" [tkD t, u.enc] = .ok (.bool (g.all fun p => so u p.1))
  way : ∀ u : Tst, u.dep ≤ 3 → C "_law_way" [tkD t, u.enc] = .ok (wayD g u)
theorem kn {ns : List Int} (hw : 6000000 ≤ wf) {t : Talk} (D : Drawn 4 t) : ∃ g, Kn (callN T wf (cellN ns) 12) t g := by
  have TK := D.ok
  have sm := drawn_small D
  have hU : (allSd XY t).length < LIM := Nat.lt_of_le_of_lt sm (by decide)
  obtain ⟨n, g, hn, hr, hg⟩ := reach_ex TK
  have e1 := reach_ok (T := T) (wf := wf) (nat := cellN ns) (k := 11) TK hU (by omega) (by omega) hn hr
  have e0 := waysFrom_ok (T := T) (wf := wf) (nat := cellN ns) (k := 10) TK hU (by omega) (by omega) hn hr
  have hne : g ≠ [] := by
    intro z
    have := (reach_all TK hr).2 [] (beginM t) rfl
    rw [z] at this; cases this
  have hsd : ∀ p ∈ g, SdOk XY t p.1 := hg.all
  refine ⟨g, hne, hg.nd, ways_rise hr, lreach_ok TK hU (by omega) (by omega) hn hr, fun c => ?_, fun u hp hd p hpg => lisSo_ok (hsd p hpg) hp (by omega), fun u hd => ever_ok e1 fun p hp => isSo_ok (hsd p hp) (by omega), fun u hd => always_ok e1 fun p hp => isSo_ok (hsd p hp) (by omega),
    fun u hd => way_ok (wayFor_ok hne hg.nd e0 fun p hp => isSo_ok (hsd p hp) (by omega))⟩
  obtain ⟨u, h1, h2, h3⟩ := ofTalk_ok (T := T) (wf := wf) (nat := cellN ns) c t
  exact ⟨u, h1, h2, h3 12 (by omega)⟩
end K34
namespace K34
open BT PySem
variable {C : CallF} {wf : Nat} {t : Talk} {g : Fd Sd}
def body1 : List MS := fb (m_law.body.getD 0 .pass)
def body2 : List MS := fb (body1.getD 3 .pass)
def lcS : M := .lc [8] (.name 8) .plain [(.var 4)] (.call "_law_is_so" [(.var 8), (.var 6)]) (.var 8)
def lcW : M := .lc [8] (.name 8) .plain [(.var 7)] (.bl true) (.tup [(.blt .len [(.idx (.var 4) (.var 8))]), (.idx (.var 4) (.var 8))])
theorem hbody : body1 = [.set 2 (.bin .add (.call "_law_cell" [(.bin .mod (.var 1) (.int (9)))]) (.bin .mul (.int (31)) (.var 1))), .set 3 (.call "_law_talk" [(.var 2), (.int (4))]), .set 4 (.call "_law_reach" [(.var 3)]), .for_ (.name 5) .range1 [(.int (4))] body2] := rfl
theorem hbody2 : body2 = [.set 6 (.call "_law_of_talk" [(.bin .add (.var 2) (.bin .mul (.int (7)) (.var 5))), (.var 3), (.int (2))]), .set 7 lcS,
      .iff (.or (.cmp .ne (.call "ever" [(.var 3), (.var 6)]) (.cmp .ne (.var 7) (.lst []))) (.cmp .ne (.call "always" [(.var 3), (.var 6)]) (.cmp .eq (.blt .len [(.var 7)]) (.blt .len [(.var 4)])))) [.ret (.bl false)] [],
      .iff (.or (.cmp .ne (.call "always" [(.var 3), (.tup [(.str "not"), (.var 6)])]) (.cmp .eq (.var 7) (.lst []))) (.cmp .ne (.call "ever" [(.var 3), (.tup [(.str "not"), (.var 6)])]) (.cmp .lt (.blt .len [(.var 7)]) (.blt .len [(.var 4)])))) [.ret (.bl false)] [],
      .set 9 (.blt .sorted [lcW]), .set 10 (.ife (.cmp .eq (.var 9) (.lst [])) (.str "none") (.idx (.idx (.var 9) (.int (0))) (.int (1)))),
      .iff (.cmp .ne (.call "_law_way" [(.var 3), (.var 6)]) (.var 10)) [.ret (.bl false)] []] := rfl
theorem lcS_ok (K : Kn C t g) {u : Tst} (hp : u.pos) (hd : u.dep ≤ 3) (x0 x1 x2 x3 x5 x7 x8 x9 x10 : Option D) : ev C lcS [x0, x1, x2, x3, some (fdD g), x5, some u.enc, x7, x8, x9, x10] = .ok (.list ((soAt g u).map fun p => p.1.enc)) := by
  simp [lcS, it_fdg K.ne, lcN_M]
  rw [lcM_fd K.nd (c := fun p => so u p.1) (h := fun p => p.1.enc) fun p hpg ha => ?_]
  · simp [soAt]
  · rw [K.lso u hp hd p hpg]
    cases so u p.1 <;> simp
theorem lcW_ok (K : Kn C t g) {u : Tst} (x0 x1 x2 x3 x5 x6 x8 x9 x10 : Option D) : ev C lcW [x0, x1, x2, x3, some (fdD g), x5, x6, some (.list ((soAt g u).map fun p => p.1.enc)), x8, x9, x10] = .ok (.list ((soAt g u).map fun p => lwD p.2)) := by
  have hi : itemsF .plain [.list ((soAt g u).map fun p => p.1.enc)] = .ok ((soAt g u).map fun p => p.1.enc) := rfl
  simp [lcW, hi, lcN_M]
  rw [lcM_congr (g := fun p : Sd × List Nat => R.ok (some (lwD p.2))) fun p hp => ?_, lcM_all]
  · rfl
  · have hpg : p ∈ g := (List.mem_filter.mp hp).1
    rw [fd_idx (alook_mem K.nd (by exact hpg) : alook g p.1 = some p.2)]
    simp [ns_len, lwD]
theorem so_not {u : Tst} {s : Sd} : so (.not u) s = !so u s := rfl
theorem any_f {l : Fd Sd} {p : Sd × List Nat → Bool} : l.any p = !(l.filter p).isEmpty := by
  induction l with
  | nil => rfl
  | cons x l ih =>
    rw [List.any_cons, List.filter_cons, ih]
    cases p x <;> simp
theorem all_f {l : Fd Sd} {p : Sd × List Nat → Bool} : l.all p = decide ((l.filter p).length = l.length) := by
  rw [Bool.eq_iff_iff, List.all_eq_true, decide_eq_true_eq, List.length_filter_eq_length_iff]
theorem turn2 (K : Kn C t g) {c : Int} {r : En} (j : Nat) (h : ∃ x0 x1 x5 x6 x7 x8 x9 x10, r = [x0, x1, some (.int c), some (tkD t), some (fdD g), x5, x6, x7, x8, x9, x10]) :
    ∃ r2, evSs C wf body2 (put r 5 (.int (j : Int))) = .nx r2 ∧ ∃ x0 x1 x5 x6 x7 x8 x9 x10, r2 = [x0, x1, some (.int c), some (tkD t), some (fdD g), x5, x6, x7, x8, x9, x10] := by
  obtain ⟨x0, x1, x5, x6, x7, x8, x9, x10, rfl⟩ := h
  obtain ⟨u, hg, hd, et⟩ := K.draw (c + 7 * j)
  have m7 : binF .mul (.int 7) (.int (j : Int)) = .ok (.int (7 * j)) := mul7
  have s1 := lcS_ok K (Tst.gen_pos hg) (by omega) x0 x1 (some (.int c)) (some (tkD t)) (some (.int (j : Int))) x7 x8 x9 x10
  have s2 := lcW_ok K (u := u) x0 x1 (some (.int c)) (some (tkD t)) (some (.int (j : Int))) (some u.enc) x8 x9 x10
  have e1 := K.ever u (by omega)
  have e2 := K.always u (by omega)
  have e3 := K.ever (.not u) (by simp [Tst.dep]; omega)
  have e4 := K.always (.not u) (by simp [Tst.dep]; omega)
  have e5 := K.way u (by omega)
  have en : (Tst.not u).enc = .tuple [.str "not", u.enc] := rfl
  rw [en] at e3 e4
  have l1 : bltF .len [fdD g] = .ok (.int (g.length : Int)) := by
    show R.ok (PyData.int ((dE Sd.enc nsD g).length : Int)) = _
    simp [dE]
  have sh1 : shalL 59 ((soAt g u).map fun p => p.1.enc) = true := shalL_of fun x hx => by
    obtain ⟨p, _, rfl⟩ := List.mem_map.mp hx
    exact shal_sd (n := 56)
  have sh2 : shalL 59 ((soAt g u).map fun p => lwD p.2) = true := shalL_of fun x hx => by
    obtain ⟨p, _, rfl⟩ := List.mem_map.mp hx
    have : shal (57 + 1) (nsD p.2) = true := shal_ns
    show shal 59 (.tuple _) = true
    simp [shal, shalL, this]
  have n1 := ne_nilL sh1
  have n2 := eq_nil sh1
  have n3 := eq_nil sh2
  have so1 : bltF .sorted [.list ((soAt g u).map fun p => lwD p.2)] = .ok (.list ((soAt g u).map fun p => lwD p.2)) := by
    have := sort_lw (l := (soAt g u).map Prod.snd) (K.rise.sublist (List.Sublist.map _ List.filter_sublist))
    rw [List.map_map] at this
    exact this
  have a1 : (g.any fun p => so u p.1) = !(soAt g u).isEmpty := any_f
  have a2 : (g.all fun p => so u p.1) = decide ((soAt g u).length = g.length) := all_f
  have a3 : (g.all fun p => so (.not u) p.1) = (soAt g u).isEmpty := by
    rw [← Bool.not_not (soAt g u).isEmpty, ← a1]
    simp only [so_not]
    rw [← List.not_any_eq_all_not]
  have a4 : (g.any fun p => so (.not u) p.1) = decide ((soAt g u).length < g.length) := by
    simp only [so_not]
    rw [← List.not_all_eq_any_not, a2]
    have := List.length_filter_le (fun p : Sd × List Nat => so u p.1) g
    have h2 : (soAt g u).length ≤ g.length := this
    by_cases h : (soAt g u).length = g.length
    · rw [decide_eq_true h, decide_eq_false (by omega)]; rfl
    · rw [decide_eq_false h, decide_eq_true (by omega)]; rfl
  rw [a1] at e1
  rw [a2] at e2
  rw [a4] at e3
  rw [a3] at e4
  refine ⟨[x0, x1, some (.int c), some (tkD t), some (fdD g), some (.int (j : Int)), some u.enc, some (.list ((soAt g u).map fun p => p.1.enc)), x8, some (.list ((soAt g u).map fun p => lwD p.2)), some (wayD g u)], ?_, _, _, _, _, _, _, _, _, rfl⟩
  have q1 : (((soAt g u).length : Int) == (g.length : Int)) = decide ((soAt g u).length = g.length) := by
    rw [Bool.eq_iff_iff, beq_iff_eq, decide_eq_true_eq]; omega
  have q2 : decide (((soAt g u).length : Int) < (g.length : Int)) = decide ((soAt g u).length < g.length) := by
    rw [Bool.eq_iff_iff, decide_eq_true_eq, decide_eq_true_eq]; omega
  have w1 : cmpF .ne (wayD g u) (wayD g u) = .ok false := by
    refine ne_self ?_
    unfold wayD
    split
    · rfl
    · exact shal_ns (n := 59)
  unfold wayD at e5 w1 ⊢
  rw [hbody2]
  generalize lcS = LS at s1 ⊢
  generalize lcW = LW at s2 ⊢
  have hlm : ∀ f : Sd × List Nat → D, ((soAt g u).map f).length = (soAt g u).length := fun f => List.length_map _
  have l2 : bltF .len [.list ((soAt g u).map fun p => p.1.enc)] = .ok (.int ((soAt g u).length : Int)) := by rw [lenL, hlm]
  rw [List.isEmpty_map] at n1 n2 n3
  cases hso : soAt g u with
  | nil =>
    rw [hso] at s1 s2 e1 e2 e3 e4 e5 n1 n2 n3 so1 q1 q2 w1 l2
    have hgl : 0 < g.length := List.length_pos_iff.mpr K.ne
    have z1 : decide (([] : Fd Sd).length = g.length) = false := decide_eq_false (by simp only [List.length_nil]; omega)
    have z2 : decide (([] : Fd Sd).length < g.length) = true := decide_eq_true (by simp only [List.length_nil]; omega)
    rw [z1] at e2 q1
    rw [z2] at e3 q2
    simp only [List.map_nil, List.isEmpty_nil, Bool.not_true, List.length_nil] at s1 s2 e1 e2 e3 e4 e5 n1 n2 n3 so1 q1 q2 w1 l2
    rw [List.map_nil, List.map_nil]
    have g0 : ¬ (0 : Int) = (g.length : Int) := by omega
    have g1 : 0 < g.length := hgl
    generalize g.length = GL at *
    simp [-lenL, g0, g1, m7, et, s1, e1, e2, e3, e4, n1, n2, n3, l1, l2, s2, so1, q1, q2, e5, w1]
  | cons p ps =>
    rw [hso] at s1 s2 e1 e2 e3 e4 e5 n1 n2 n3 so1 q1 q2 w1 l2
    simp only [List.map_cons, List.isEmpty_cons, Bool.not_false] at s1 s2 e1 e2 e3 e4 e5 n1 n2 n3 so1 q1 q2 w1 l2
    have i1 : idxF (lwD p.2) (.int 1) = .ok (nsD p.2) := rfl
    rw [List.map_cons, List.map_cons]
    generalize (p.1.enc :: ps.map fun p => p.1.enc) = XS at *
    generalize (p :: ps).length = LN at *
    generalize hG : g.length = GL at *
    simp [-lenL, m7, et, s1, e1, e2, e3, e4, n1, n2, n3, l1, l2, s2, so1, q1, q2, e5, w1, i1]
theorem turn {C : CallF} {wf : Nat} (cell : ∀ j : Int, 0 ≤ j → ∃ i, C "_law_cell" [.int j] = .ok (.int i)) (talk : ∀ c : Int, ∃ t g, Kn C t g ∧ C "_law_talk" [.int c, .int 4] = .ok (tkD t)) (r : En) (j : Nat) (hl : r.length = 11) : ∃ r2, evSs C wf body1 (put r 1 (.int j)) = .nx r2 ∧ r2.length = 11 := by
  match r, hl with
  | [x0, x1, x2, x3, x4, x5, x6, x7, x8, x9, x10], _ =>
    obtain ⟨c, ec⟩ := cell ((j : Int) % 9) (by omega)
    have m3 : binF .mul (.int 31) (.int (j : Int)) = .ok (.int (31 * j)) := mul31
    have m9 : binF .mod (.int (j : Int)) (.int 9) = .ok (.int ((j : Int) % 9)) := b_modI (by omega)
    obtain ⟨t, g, K, et⟩ := talk (c + 31 * j)
    have er := K.reach
    obtain ⟨r', e, y0, y1, y5, y6, y7, y8, y9, y10, rfl⟩ := for_inv (C := C) (wf := wf) (tg := .name 5) (ik := .range1) (its := [.int 4]) (body := body2) (fun r => ∃ x0 x1 x5 x6 x7 x8 x9 x10, r = [x0, x1, some (.int (c + 31 * j)), some (tkD t), some (fdD g), x5, x6, x7, x8, x9, x10]) (r := [x0, some (.int (j : Int)), some (.int (c + 31 * j)), some (tkD t), some (fdD g), x5, x6, x7, x8, x9, x10]) ⟨_, _, _, _, _, _, _, _, rfl⟩
      (xs := (List.range 4).map fun (k : Nat) => .int (k : Int)) (by simp only [evs, ev, R.bind_ok]; exact it_range1 (by omega)) (fun r x hx hp => by
        obtain ⟨i, _, rfl⟩ := List.mem_map.mp hx
        obtain ⟨r2, e2, h2⟩ := turn2 (wf := wf) K i hp
        exact ⟨_, r2, rfl, e2, h2⟩)
    refine ⟨[y0, y1, some (.int (c + 31 * j)), some (tkD t), some (fdD g), y5, y6, y7, y8, y9, y10], ?_, rfl⟩
    rw [hbody]
    generalize body2 = B at e ⊢
    simp only [eSs_c, eS_set, ev_bin, ev_call, evs_c, evs_n, ev_var, ev_int, get_s, get_z, R.bind_ok, m9, ec, m3, b_addI, R.toF_ok, F.then_nx, put_s, put_z, et, er, e, eSs_n]
theorem pure_law (ns : List Int) : lawRes rows r_law 6000000 12 ns = .ok (.bool true) := by
  show (evSs (callN T 6000000 (cellN ns) 12) 6000000 m_law.body (List.replicate 11 none)).res = _
  generalize hwf : (6000000 : Nat) = wf
  have hw : 6000000 ≤ wf := by omega
  obtain ⟨r', e, hr⟩ := law_for (C := callN T wf (cellN ns) 12) (wf := wf) (n := 11) (m := 12) (body := body1) (r := List.replicate 11 none) (by omega) rfl (fun r j hj hl => turn (fun j hj => ⟨_, cell_ok noCell hj⟩) (fun c => by
    obtain ⟨t, h1, h2⟩ := talk_ex (T := T) (wf := wf) (nat := cellN ns) 4 (by omega) (by omega) c
    obtain ⟨g, K⟩ := kn (ns := ns) hw h1
    exact ⟨t, g, K, h2 12 (by omega)⟩) r j hl)
  have hb : m_law.body = [.for_ (.name 1) .range1 [.int 12] body1, .ret (.bl true)] := rfl
  rw [hb, eSs_c, e, BT.F.then_nx]
  simp
end K34

theorem PySem.Challenge.cw_branchtalk_k34_whole_ever_and_always_holds : PySem.Challenge.rw_branchtalk_k34_whole_ever_and_always.Holds :=
  K34.holds 6000000 11 ⟨rfl, by decide, by decide⟩ fun ns _ => K34.pure_law ns
