import PyProof.Rows.All
import Wide.All
import OpenK.AllK
import Wide.FinOn
import HandS.ForMost
import KE.KeyNested
import HandS.Conv
import HandS.Flow
import HandS.Style
import HandS.TupAny
import HandS.TupMul
import HandS.Deep
import HandS.IsInst
import HandS.Zip
import HandS.Strs
import HandS.SortInts
import HandS.Wide
import HandS.ExcOwn
import HandS.ExcIs
import HandS.WordsExc
import HandS.Lambda
import KE.KDictDisplayH
import KE.KDictPairs
import KE.SortData
import HandS.DictTup
import KE.GoesMore
import KE.GoesEnum
import HandS.SetFor
import HandS.HotCalls
import KE.KNestM
import KE.KStateDown
import HandS.EndTab
import HandS.Head0
import HandS.Head1
import HandS.Head2
import HandS.HeadHook1
import HandS.HeadHook2
import PySem.Challenge.RW_rungonce_k93_whole_leadings_by_rows
set_option Elab.async false
/-! ## PfD -/
section
/-! PfD: a pure evaluator for the part of Python that the program and the laws use.
Values are plain data; lists that a def makes and changes itself are owned slots; the law's cup (a list of two ints) is the one shared cell. -/
set_option linter.all false
set_option autoImplicit false
namespace PF
open PySem

/-! ### data -/
inductive D where
  | non | bl (b : Bool) | int (i : Int) | str (x : Str)
  | tup (xs : List D) | lst (xs : List D)
  | dct (kvs : List (D × D)) | set (xs : List D)
  | cup | scr (ns : List Int) | exc (k : Str)

abbrev Cup := Option (Int × Int)
inductive Res (α : Type) where
  | ok (a : α) (c : Cup) | exc (k : Str) (c : Cup) | stuck
abbrev M (α : Type) := Cup → Res α
namespace M
def pure {α : Type} (a : α) : M α := fun c => .ok a c
def stuck {α : Type} : M α := fun _ => .stuck
def exc {α : Type} (k : Str) : M α := fun c => .exc k c
def bind {α β : Type} (m : M α) (f : α → M β) : M β := fun c => match m c with
  | .ok a c => f a c
  | .exc k c => .exc k c
  | .stuck => .stuck
/-- what raises is not told -/
def nox {α : Type} (m : M α) : M α := fun c => match m c with
  | .exc _ _ => .stuck
  | r => r
def lift {α : Type} : Option α → M α
  | some a => pure a
  | none => stuck
end M
instance : Monad M where
  pure := M.pure
  bind := M.bind

/-! ### the code -/
inductive Bop where | add | sub | mul | fdiv | mod | pow
inductive Cop where | eq | ne | lt | le | gt | ge | is | isnot | in_ | notin
inductive Kst where | non | bl (b : Bool) | int (i : Int) | str (s : Str)
  deriving DecidableEq
inductive Ty where | int | bool | str | list | tuple
inductive Blt where | len | tuple | list | sorted | all | any | sum | abs | int | bool | str | min | max | dict
inductive Mth where | index | count | get | items | values | keys
inductive Tg where | nm (i : Nat) | tp (ts : List Tg)

mutual
inductive Ex where
  | var (i : Nat) | cst (k : Kst) | glb (x : Str) (k : Kst)
  | bin (op : Bop) (a b : Ex) | neg (a : Ex) | not (a : Ex)
  | cmp (op : Cop) (a b : Ex) | chain (o1 o2 : Cop) (a b c : Ex)
  | and (a b : Ex) | or (a b : Ex) | ite (c a b : Ex)
  | tup (es : Exs) | lst (es : Exs)
  | idx (a i : Ex) | sl (a : Ex) (lo hi : Opt) | step (a : Ex) (k : Ex)
  | dnil | done (k v : Ex) | dput (d k v : Ex) | dtwo (k v k2 v2 : Ex) | dmrg (d e : Ex) | lset (a : Ex)
  | call (g : Nat) (es : Exs) | blt (b : Blt) (es : Exs) | isi (a : Ex) (t : Ty) | isx (a : Ex) (k : Str)
  | mth (m : Mth) (a : Ex) (es : Exs)
  | lc (t : Tg) (it : Itr) (e : Ex) | lcif (t : Tg) (it : Itr) (c e : Ex)
  | cup (a b : Ex)
  | lam (f : Nat) (e : Ex)
  | trg1 (t : Bool) (a : Ex) | trg2 (t : Bool) (a b : Ex) | trg3 (a b c : Ex)
inductive Exs where | nil | cons (e : Ex) (es : Exs)
inductive Opt where | no | some (e : Ex)
inductive Itr where
  | val (e : Ex) | rng1 (a : Ex) | rng2 (a b : Ex) | enum (e : Ex) | zip (a b : Ex) | items (e : Ex)
end

mutual
inductive St where
  | asg (own : Bool) (i : Nat) (e : Ex)
  | par (is : List (Nat × Bool)) (es : Exs)
  | unp (t : Tg) (e : Ex)
  | app (i : Nat) (e : Ex)
  | setO (i : Nat) (k e : Ex) | dset (i : Nat) (k e : Ex) | swp (i : Nat) (k1 k2 e1 e2 : Ex)
  | cupS (i : Nat) (k : Nat) (e : Ex)
  | ex (e : Ex) | ret (e : Ex) | retN
  | ite (c : Ex) (a b : Sts)
  | for (t : Tg) (it : Itr) (b : Sts) | whl (n : Nat) (c : Ex) (b : Sts)
  | rse (k : Str) | pass | brk | cont
  | share (i : Nat) (s : St)
  | tryR (a : Ex) (k : Str) (b : Kst)
inductive Sts where | nil | cons (s : St) (ss : Sts)
end

/-! ### operations on data -/
def Kst.d : Kst → D
  | .non => .non | .bl b => .bl b | .int i => .int i | .str s => .str s

mutual
/-- == -/
def eqD : D → D → Bool
  | .non, .non => true
  | .bl a, .bl b => a == b
  | .int a, .int b => a == b
  | .bl a, .int b => (if a then (1 : Int) else 0) == b
  | .int a, .bl b => a == (if b then (1 : Int) else 0)
  | .str a, .str b => a == b
  | .tup xs, .tup ys => eqDs xs ys
  | .lst xs, .lst ys => eqDs xs ys
  | _, _ => false
def eqDs : List D → List D → Bool
  | [], [] => true
  | x :: xs, y :: ys => eqD x y && eqDs xs ys
  | _, _ => false
end
mutual
/-- things that == is told of, so deep at most -/
def plainN : D → Nat → Bool
  | .non, _ => true
  | .bl _, _ => true
  | .int _, _ => true
  | .str x, _ => PyData.strOk x
  | .tup xs, n => match n with
    | 0 => false
    | n + 1 => plainsN xs n
  | .lst xs, n => match n with
    | 0 => false
    | n + 1 => plainsN xs n
  | _, _ => false
def plainsN : List D → Nat → Bool
  | [], _ => true
  | x :: xs, n => plainN x n && plainsN xs n
end
def plain (d : D) : Bool := plainN d 20
/-- None, bools, ints: in and index ask == of such -/
def flat : D → Bool
  | .non => true | .bl _ => true | .int _ => true | .str _ => true | _ => false

def small (n : Nat) : Bool := decide (n ≤ 1000000)

def opB : Bop → D → D → Option D
  | .add, .int i, .int j => some (.int (i + j))
  | .add, .lst xs, .lst ys => if small (xs.length + ys.length) then some (.lst (xs ++ ys)) else none
  | .add, .tup xs, .tup ys => if small (xs.length + ys.length) then some (.tup (xs ++ ys)) else none
  | .sub, .int i, .int j => some (.int (i - j))
  | .mul, .int i, .int j => if (-(2 ^ 64) < i ∧ i < 2 ^ 64) ∨ (-(2 ^ 64) < j ∧ j < 2 ^ 64) then some (.int (i * j)) else none
  | .mul, .lst xs, .int k => if 0 ≤ k ∧ k ≤ 1000 ∧ xs.length ≤ 1000 then some (.lst (List.replicate k.toNat xs).flatten) else none
  | .mul, .tup xs, .int k => if 1 ≤ k ∧ k ≤ 1000 ∧ xs.length ≤ 1000 then some (.tup (List.replicate k.toNat xs).flatten) else none
  | .fdiv, .int i, .int j => if j ≠ 0 ∧ j.natAbs < 1073741824 then some (.int (i.fdiv j)) else none
  | .mod, .int i, .int j => if j ≠ 0 then some (.int (i.fmod j)) else none
  | .pow, .int i, .int j => if 0 ≤ j ∧ j ≤ 1000000 ∧ i.natAbs < 2 ^ 64 then some (.int (i ^ j.toNat)) else none
  | _, _, _ => none

/-! ### dicts -/
mutual
/-- a key up to ==: ints, texts, None, tuples of such -/
def keyN : D → Option NestedKey
  | .non => some .none
  | .int i => some (.num i)
  | .tup xs => (keyNs xs).map .tup
  | _ => none
def keyNs : List D → Option (List NestedKey)
  | [] => some []
  | x :: xs => match keyN x, keyNs xs with
    | some k, some ks => some (k :: ks)
    | _, _ => none
end
/-- the key of a dict -/
def keyD (d : D) : Option NestedKey := match keyN d with
  | some k => if k.depth ≤ 8 then some k else none
  | none => none
mutual
/-- hash, of what holds no text -/
def hashN : NestedKey → Int
  | .none => reduceHash 0xFCA86420
  | .num i => hashInt i
  | .text _ => 0
  | .tup ks => reduceHash (Builtin.Tuple.tupleHashOf (hashNs ks))
def hashNs : List NestedKey → List Int
  | [] => []
  | k :: ks => hashN k :: hashNs ks
end
def dAt : List (D × D) → NestedKey → Option D
  | [], _ => none
  | (a, v) :: r, k => if keyD a = some k then some v else dAt r k
def dPut (kvs : List (D × D)) (k : NestedKey) (a v : D) : List (D × D) :=
  if (dAt kvs k).isSome then kvs.map fun p => if keyD p.1 = some k then (p.1, v) else p else kvs ++ [(a, v)]
def hashD (d : D) : Option Int := (keyD d).map hashN
/-- no two tuples among the keys hash alike -/
def isTupK : D → Bool
  | .tup _ => true
  | _ => false
def dApart (kvs : List (D × D)) : Bool := kvs.all fun p => !isTupK p.1 || decide ((kvs.filter fun q => hashD q.1 == hashD p.1).length ≤ 1)
/-- dict(x), x a list of pairs -/
def pairK : D → Option (NestedKey × D × D)
  | .tup [a, v] => (keyD a).map fun k => (k, a, v)
  | _ => none
def dFold : List (D × D) → List D → Option (List (D × D))
  | acc, [] => some acc
  | acc, d :: r => match pairK d with
    | some p => dFold (dPut acc p.1 p.2.1 p.2.2) r
    | none => none
/-- {k: v} -/
def dOne (a v : D) : Option D := (keyD a).map fun _ => .dct [(a, v)]
/-- {k: v, k2: v2} -/
def dTwo (a v b u : D) : Option D := (keyD a).bind fun _ => (keyD b).map fun k => .dct (dPut [(a, v)] k b u)
/-- a dict that may be copied -/
def dOk : D → Option (List (D × D))
  | .dct kvs => if dApart kvs && small kvs.length then some kvs else none
  | _ => none
/-- {**d, k: v} -/
def dPutO (kvs : List (D × D)) (a v : D) : Option D := (keyD a).map fun k => .dct (dPut kvs k a v)
/-- {**d, **e} -/
def dAll : List (D × D) → List (D × D) → Option (List (D × D))
  | acc, [] => some acc
  | acc, (a, v) :: r => (keyD a).bind fun k => dAll (dPut acc k a v) r
def dMrg (kvs : List (D × D)) : D → Option D
  | .dct more => if (!kvs.isEmpty || dApart more) && small (kvs.length + more.length) then (dAll kvs more).map .dct else none
  | _ => none
def isIn (x : D) (ys : List D) : Bool := ys.any fun y => eqD y x
def opC : Cop → D → D → Option Bool
  | .eq, x, y => if plain x && plain y then some (eqD x y) else none
  | .ne, x, y => if plain x && plain y then some (!eqD x y) else none
  | .lt, .int i, .int j => some (decide (i < j))
  | .le, .int i, .int j => some (decide (i ≤ j))
  | .gt, .int i, .int j => some (decide (j < i))
  | .ge, .int i, .int j => some (decide (j ≤ i))
  | .is, x, .non => some (match x with | .non => true | _ => false)
  | .isnot, x, .non => some (match x with | .non => false | _ => true)
  | .is, .bl a, .bl b => some (a == b)
  | .isnot, .bl a, .bl b => some (!(a == b))
  | .in_, x, .lst ys => if plain x && plain (.lst ys) then some (isIn x ys) else none
  | .in_, x, .tup ys => if flat x && ys.all flat then some (isIn x ys) else none
  | .notin, x, .lst ys => if plain x && plain (.lst ys) then some (!isIn x ys) else none
  | .notin, x, .tup ys => if flat x && ys.all flat then some (!isIn x ys) else none
  | .in_, x, .dct kvs => (keyD x).map fun k => (dAt kvs k).isSome
  | .notin, x, .dct kvs => (keyD x).map fun k => !(dAt kvs k).isSome
  | _, _, _ => none

/-- the place of an index that may be negative -/
def place (n : Nat) (i : Int) : Option Nat := if 0 ≤ i then (if i < n then some i.toNat else none) else if -(n : Int) ≤ i then some (i + n).toNat else none
def item (xs : List D) (i : Int) : Option D := (place xs.length i).bind fun j => xs[j]?
def opI (cup : Cup) : D → D → Option D
  | .lst xs, .int i => item xs i
  | .tup xs, .int i => item xs i
  | .cup, .int i => match cup with
    | some (x, y) => if i = 0 then some (.int x) else if i = 1 then some (.int y) else none
    | none => none
  | .dct kvs, a => (keyD a).bind (dAt kvs)
  | _, _ => none
/-- a slice's end -/
def clip (n d : Nat) : Option Int → Nat
  | none => d
  | some v => if v < 0 then (v + n).toNat else min v.toNat n
def cut (xs : List D) (lo hi : Option Int) : List D := (xs.drop (clip xs.length 0 lo)).take (clip xs.length xs.length hi - clip xs.length 0 lo)
def opS : D → Option Int → Option Int → Option D
  | .lst xs, lo, hi => some (.lst (cut xs lo hi))
  | .tup xs, lo, hi => some (.tup (cut xs lo hi))
  | _, _, _ => none
/-- the items of a slice with a step -/
def pick (xs : List D) (lo hi st : Option Int) : List D := (sliceRange (sliceBounds lo hi st xs.length).1 (sliceBounds lo hi st xs.length).2.1 (sliceBounds lo hi st xs.length).2.2).filterMap (xs[·]?)
def ints? : List D → Option (List Int)
  | [] => some []
  | .int i :: xs => (ints? xs).map (i :: ·)
  | _ => none
def bls? : List D → Option (List Bool)
  | [] => some []
  | .bl i :: xs => (bls? xs).map (i :: ·)
  | _ => none
def rangeD (lo hi : Int) : List D := (List.range (hi - lo).toNat).map fun i => .int (lo + (i : Nat))
/-- a range with a step -/
def rangeC (lo hi c : Int) : List D := (List.range (Builtin.Range.rangeSize lo hi c).toNat).map fun i => .int (lo + (i : Nat) * c)
def rgCOk (i j k : Int) : Bool := decide (k ≠ 0 ∧ k.natAbs < 1073741824) && Builtin.Range.small i j k && decide (0 ≤ Builtin.Range.rangeSize i j k ∧ Builtin.Range.rangeSize i j k ≤ 1000000)
def rngOk (lo hi : Int) : Bool := decide (-1000000 ≤ lo ∧ lo ≤ 1000000 ∧ -1000000 ≤ hi ∧ hi ≤ 1000000)

def opK : D → D → Option D
  | .lst xs, .int k => if k ≠ 0 then some (.lst (pick xs none none (some k))) else none
  | _, _ => none
def idxOf? (x : D) : List D → Option Nat
  | [] => none
  | y :: ys => if eqD y x then some 0 else (idxOf? x ys).map (· + 1)

def truth : D → Option Bool
  | .bl b => some b
  | .non => some false
  | .int i => some (i != 0)
  | .lst xs => some (!xs.isEmpty)
  | .tup xs => some (!xs.isEmpty)
  | _ => none
def ty? : D → Ty → Option Bool
  | .non, _ => some false
  | .bl _, .bool => some true
  | .bl _, .int => some true
  | .bl _, _ => some false
  | .int _, .int => some true
  | .int _, _ => some false
  | .str _, .str => some true
  | .str _, _ => some false
  | .lst _, .list => some true
  | .lst _, _ => some false
  | .tup _, .tuple => some true
  | .tup _, _ => some false
  | _, _ => none
def itemsOf : D → Option (List D)
  | .lst xs => some xs
  | .tup xs => some xs
  | _ => none

/-- tuples of ints in their order; others: not told -/
def intsT? : D → Option (List Int)
  | .tup xs => ints? xs
  | _ => none
def lexLe : List Int → List Int → Bool
  | [], _ => true
  | _ :: _, [] => false
  | x :: xs, y :: ys => if x = y then lexLe xs ys else decide (x < y)
def allSome {α : Type} : List (Option α) → Option (List α)
  | [] => some []
  | some a :: xs => (allSome xs).map (a :: ·)
  | none :: _ => none
def intD (i : Int) : D := .int i
def tupD (xs : List Int) : D := .tup (xs.map .int)
def ins {α : Type} (le : α → α → Bool) (x : α) : List α → List α
  | [] => [x]
  | y :: ys => if le x y then x :: y :: ys else y :: ins le x ys
def isort {α : Type} (le : α → α → Bool) : List α → List α
  | [] => []
  | x :: xs => ins le x (isort le xs)
/-- the ints, each once -/
def nubI : List Int → List Int
  | [] => []
  | x :: xs => if x ∈ xs then nubI xs else x :: nubI xs
/-- len(set(x)) -/
def lsetI (xs : List D) : Option D := (ints? xs).bind fun is => if is.length ≤ 4000 then some (.int ((nubI is).length : Nat)) else none
def lsetO : D → Option D
  | .lst xs => lsetI xs
  | .tup xs => lsetI xs
  | _ => none
/-- pairs of an int and a tuple of ints -/
def intP? : D → Option (Int × List Int)
  | .tup [.int i, .tup xs] => (ints? xs).map fun is => (i, is)
  | _ => none
def pairLe (p q : Int × List Int) : Bool := if p.1 = q.1 then lexLe p.2 q.2 else decide (p.1 < q.1)
def pairD (p : Int × List Int) : D := .tup [.int p.1, tupD p.2]
/-! nested tuples of ints -/
mutual
def nestG : D → Nat → Bool
  | .int _, _ => true
  | .tup xs, n => match n with
    | 0 => false
    | n + 1 => nestGs xs n
  | _, _ => false
def nestGs : List D → Nat → Bool
  | [], _ => true
  | x :: xs, n => nestG x n && nestGs xs n
end
mutual
/-- the signs by which such are ordered -/
def tokG : D → List Int
  | .int i => [i]
  | .tup xs => tokGs xs
  | _ => [0]
def tokGs : List D → List Int
  | [] => [0]
  | x :: xs => 1 :: (tokG x ++ tokGs xs)
end
mutual
def alikeG : D → D → Bool
  | .int _, .int _ => true
  | .tup xs, .tup ys => alikeGs xs ys
  | _, _ => false
def alikeGs : List D → List D → Bool
  | x :: xs, y :: ys => alikeG x y && alikeGs xs ys
  | _, _ => true
end
def leG (a b : D) : Bool := lexLe (tokG a) (tokG b)
def sortsG (xs : List D) : Bool := xs.all fun a => isTupK a && nestG a 18 && xs.all fun b => alikeG a b
/-- sorted -/
def sortD (xs : List D) : Option (List D) := match ints? xs with
  | some is => some ((isort (fun a b => decide (a ≤ b)) is).map .int)
  | none => match allSome (xs.map intsT?) with
    | some ts => some ((isort lexLe ts).map tupD)
    | none => match allSome (xs.map intP?) with
      | some ps => some ((isort pairLe ps).map pairD)
      | none => if sortsG xs then some (isort leG xs) else none

def opF : Blt → List D → Option D
  | .len, [.lst xs] => some (.int xs.length)
  | .len, [.tup xs] => some (.int xs.length)
  | .len, [.dct kvs] => some (.int kvs.length)
  | .tuple, [.lst xs] => some (.tup xs)
  | .tuple, [.tup xs] => some (.tup xs)
  | .list, [.lst xs] => some (.lst xs)
  | .list, [.tup xs] => some (.lst xs)
  | .list, [.scr ns] => some (.lst (ns.map .int))
  | .list, [.dct kvs] => if small kvs.length then some (.lst (kvs.map (·.1))) else none
  | .sorted, [.lst xs] => (sortD xs).map .lst
  | .sorted, [.dct kvs] => if small kvs.length && sortsG (kvs.map (·.1)) then some (.lst (isort leG (kvs.map (·.1)))) else none
  | .all, [.lst xs] => (bls? xs).map fun bs => .bl (bs.all id)
  | .any, [.lst xs] => (bls? xs).map fun bs => .bl (bs.any id)
  | .sum, [.lst xs] => (ints? xs).map fun is => .int is.sum
  | .abs, [.int i] => some (.int (if i < 0 then -i else i))
  | .int, [.int i] => some (.int i)
  | .int, [.bl b] => some (.int (if b then 1 else 0))
  | .bool, [.bl b] => some (.bl b)
  | .dict, [.lst xs] => if small xs.length then (dFold [] xs).map .dct else none
  | .dict, [.tup xs] => if small xs.length then (dFold [] xs).map .dct else none
  | .min, [.lst xs] => (ints? xs).bind fun is => (is.min?).map .int
  | .max, [.lst xs] => (ints? xs).bind fun is => (is.max?).map .int
  | .min, [.int i, .int j] => some (.int (if j < i then j else i))
  | .max, [.int i, .int j] => some (.int (if j > i then j else i))
  | _, _ => none
def mthOk : Mth → D → Option Unit
  | .index, .lst _ => some ()
  | .index, .tup _ => some ()
  | .count, .lst _ => some ()
  | .get, .dct _ => some ()
  | _, _ => none
def opM : Mth → D → List D → Option D
  | .index, .lst xs, [y] => if plain y && plain (.lst xs) then (idxOf? y xs).map fun (j : Nat) => D.int (j : Int) else none
  | .index, .tup xs, [y] => if plain y && plain (.tup xs) then (idxOf? y xs).map fun (j : Nat) => D.int (j : Int) else none
  | .count, .lst xs, [y] => if plain y && plain (.lst xs) then some (.int ((xs.countP fun x => eqD x y : Nat) : Int)) else none
  | .get, .dct kvs, [y] => (keyD y).map fun k => (dAt kvs k).getD .non
  | .get, .dct kvs, [y, z] => (keyD y).map fun k => (dAt kvs k).getD z
  | _, _, _ => none

/-! ### slots -/
inductive Sl where | sh (d : D) | ow (d : D)
abbrev Env := List (Option Sl)
def getV (ρ : Env) (i : Nat) : Option D := match ρ[i]? with
  | some (some (.sh d)) => some d
  | _ => none
def getB (ρ : Env) (i : Nat) : Option D := match ρ[i]? with
  | some (some (.sh d)) => some d
  | some (some (.ow d)) => some d
  | _ => none
def getO (ρ : Env) (i : Nat) : Option D := match ρ[i]? with
  | some (some (.ow d)) => some d
  | _ => none
def setS (ρ : Env) (i : Nat) (d : D) : Env := ρ.set i (some (.sh d))
def setW (ρ : Env) (i : Nat) (d : D) : Env := ρ.set i (some (.ow d))
mutual
def Tg.slots : Tg → List Nat
  | .nm i => [i]
  | .tp ts => slotsL ts
def slotsL : List Tg → List Nat
  | [] => []
  | t :: ts => t.slots ++ slotsL ts
end
mutual
def bindT : Tg → D → Env → Option Env
  | .nm i, d, ρ => some (setS ρ i d)
  | .tp ts, d, ρ => match d with
    | .tup ds => bindTs ts ds ρ
    | _ => none
def bindTs : List Tg → List D → Env → Option Env
  | [], [], ρ => some ρ
  | t :: ts, d :: ds, ρ => (bindT t d ρ).bind fun ρ => bindTs ts ds ρ
  | _, _, _ => none
end
def wipeE (ρ : Env) : List Nat → Env
  | [] => ρ
  | v :: vs => (wipeE ρ vs).set v none

/-! ### the evaluator -/
abbrev Orc := Nat → List D → M D
def mapGo (f : D → M (Option D)) : List D → List D → M (List D)
  | [], acc => M.pure acc
  | x :: xs, acc => M.bind (f x) fun o => match o with
    | some d => if small acc.length then mapGo f xs (acc ++ [d]) else M.stuck
    | none => mapGo f xs acc
def asInt : D → Option Int
  | .int i => some i
  | _ => none
def asBl : D → Option Bool
  | .bl b => some b
  | _ => none
def enumD : Nat → List D → List D
  | _, [] => []
  | n, x :: xs => .tup [.int n, x] :: enumD (n + 1) xs
def zipD : List D → List D → List D
  | x :: xs, y :: ys => .tup [x, y] :: zipD xs ys
  | _, _ => []
def withCup {α : Type} (f : Cup → Option α) : M α := fun c => match f c with
  | some a => .ok a c
  | none => .stuck
def newCup (x y : Int) : M D := fun c => match c with
  | none => .ok .cup (some (x, y))
  | some _ => .stuck
/-- the word for what a lambda's call tells (the law's _law_try) -/
def told (kin : Nat → Str → Option Str) (f : Nat) (m : M D) : M D := fun c => match m c with
  | .ok d c => .ok (.tup [.str "told", d]) c
  | .exc k c => match kin f k with
    | some z => .ok (.str z) c
    | none => .stuck
  | .stuck => .stuck

/-- a name that is only read here -/
def bor (ρ : Env) (r : M D) : Ex → M D
  | .var i => M.lift (getB ρ i)
  | _ => r

section
variable (kin : Nat → Str → Option Str) (Φ : Orc)
def dfl (e : Ex) (f : Env → M D) : (Env → M D) × (Env → M Bool) := (f, fun ρ => M.bind (bor ρ (f ρ) e) fun x => M.lift (truth x))
mutual
/-- an expression's value; the same as a test -/
def evP : Ex → (Env → M D) × (Env → M Bool)
  | .var i => dfl (.var i) fun ρ => M.lift (getV ρ i)
  | .cst k => dfl (.cst k) fun _ => M.pure k.d
  | .glb x k => dfl (.glb x k) fun _ => M.pure k.d
  | .bin op a b => dfl (.bin op a b) fun ρ => M.bind (bor ρ ((evP a).1 ρ) a) fun x => M.bind (bor ρ ((evP b).1 ρ) b) fun y => M.lift (opB op x y)
  | .neg a => dfl (.neg a) fun ρ => M.bind ((evP a).1 ρ) fun x => M.bind (M.lift (asInt x)) fun i => M.pure (.int (-i))
  | .not a => (fun ρ => M.bind (bor ρ ((evP a).1 ρ) a) fun x => M.bind (M.lift (truth x)) fun b => M.pure (.bl (!b)), fun ρ => M.bind ((evP a).2 ρ) fun b => M.pure (!b))
  | .cmp op a b => dfl (.cmp op a b) fun ρ => M.bind (bor ρ ((evP a).1 ρ) a) fun x => M.bind (bor ρ ((evP b).1 ρ) b) fun y => M.bind (M.lift (opC op x y)) fun b => M.pure (.bl b)
  | .chain o1 o2 a b c => dfl (.chain o1 o2 a b c) fun ρ => M.bind ((evP a).1 ρ) fun x => M.bind ((evP b).1 ρ) fun y => M.bind (M.lift (opC o1 x y)) fun k =>
      if k then M.bind ((evP c).1 ρ) fun z => M.bind (M.lift (opC o2 y z)) fun b => M.pure (.bl b) else M.pure (.bl false)
  | .and a b => (fun ρ => M.bind ((evP a).1 ρ) fun x => M.bind (M.lift (asBl x)) fun k => if k then (evP b).1 ρ else M.pure (.bl false), fun ρ => M.bind ((evP a).2 ρ) fun k => if k then (evP b).2 ρ else M.pure false)
  | .or a b => (fun ρ => M.bind ((evP a).1 ρ) fun x => M.bind (M.lift (asBl x)) fun k => if k then M.pure (.bl true) else (evP b).1 ρ, fun ρ => M.bind ((evP a).2 ρ) fun k => if k then M.pure true else (evP b).2 ρ)
  | .ite c a b => (fun ρ => M.bind ((evP c).2 ρ) fun k => if k then (evP a).1 ρ else (evP b).1 ρ, fun _ => M.stuck)
  | .tup es => dfl (.tup es) fun ρ => M.bind (evA es ρ) fun ds => M.pure (.tup ds)
  | .lst es => dfl (.lst es) fun ρ => M.bind (evA es ρ) fun ds => M.pure (.lst ds)
  | .idx a i => dfl (.idx a i) fun ρ => M.bind (bor ρ ((evP a).1 ρ) a) fun x => M.bind ((evP i).1 ρ) fun y => withCup fun c => opI c x y
  | .sl a lo hi => dfl (.sl a lo hi) fun ρ => M.bind (bor ρ ((evP a).1 ρ) a) fun x => M.bind (evO lo ρ) fun l => M.bind (evO hi ρ) fun h => M.lift (opS x l h)
  | .step a k => dfl (.step a k) fun ρ => M.bind (bor ρ ((evP a).1 ρ) a) fun x => M.bind ((evP k).1 ρ) fun y => M.lift (opK x y)
  | .lset a => dfl (.lset a) fun ρ => M.bind (bor ρ ((evP a).1 ρ) a) fun x => M.lift (lsetO x)
  | .dnil => dfl .dnil fun _ => M.pure (.dct [])
  | .done a b => dfl (.done a b) fun ρ => M.bind ((evP a).1 ρ) fun x => M.bind ((evP b).1 ρ) fun y => M.lift (dOne x y)
  | .dput d a b => dfl (.dput d a b) fun ρ => M.bind ((evP d).1 ρ) fun z => M.bind (M.lift (dOk z)) fun kvs => M.bind ((evP a).1 ρ) fun x => M.bind ((evP b).1 ρ) fun y => M.lift (dPutO kvs x y)
  | .dtwo a b d e => dfl (.dtwo a b d e) fun ρ => M.bind ((evP a).1 ρ) fun x => M.bind ((evP b).1 ρ) fun y => M.bind ((evP d).1 ρ) fun z => M.bind ((evP e).1 ρ) fun u => M.lift (dTwo x y z u)
  | .dmrg d e => dfl (.dmrg d e) fun ρ => M.bind ((evP d).1 ρ) fun z => M.bind (M.lift (dOk z)) fun kvs => M.bind ((evP e).1 ρ) fun y => M.lift (dMrg kvs y)
  | .trg2 t a b => dfl (.trg2 t a b) fun ρ => M.bind ((evP a).1 ρ) fun x => M.bind ((evP b).1 ρ) fun y => M.bind (M.lift (asInt x)) fun i => M.bind (M.lift (asInt y)) fun j => if rngOk i j then M.pure (if t then .tup (rangeD i j) else .lst (rangeD i j)) else M.stuck
  | .trg1 t a => dfl (.trg1 t a) fun ρ => M.bind ((evP a).1 ρ) fun x => M.bind (M.lift (asInt x)) fun i => if rngOk 0 i then M.pure (if t then .tup (rangeD 0 i) else .lst (rangeD 0 i)) else M.stuck
  | .trg3 a b c => dfl (.trg3 a b c) fun ρ => M.bind ((evP a).1 ρ) fun x => M.bind ((evP b).1 ρ) fun y => M.bind ((evP c).1 ρ) fun z => M.bind (M.lift (asInt x)) fun i => M.bind (M.lift (asInt y)) fun j => M.bind (M.lift (asInt z)) fun k => if rgCOk i j k then M.pure (.tup (rangeC i j k)) else M.stuck
  | .call g es => dfl (.call g es) fun ρ => M.bind (evA es ρ) fun ds => Φ g ds
  | .blt b es => dfl (.blt b es) fun ρ => M.bind (evB es ρ) fun ds => M.lift (opF b ds)
  | .isi a t => dfl (.isi a t) fun ρ => M.bind ((evP a).1 ρ) fun x => M.bind (M.lift (ty? x t)) fun b => M.pure (.bl b)
  | .isx a k => dfl (.isx a k) fun _ => M.stuck
  | .mth m a es => dfl (.mth m a es) fun ρ => M.bind (bor ρ ((evP a).1 ρ) a) fun x => M.bind (M.lift (mthOk m x)) fun _ => M.bind (evA es ρ) fun ds => M.lift (opM m x ds)
  | .lc t it e => dfl (.lc t it e) fun ρ => M.bind (evI it ρ) fun xs => M.bind (mapGo (fun x => M.bind (M.lift (bindT t x (wipeE ρ t.slots))) fun ρ' => M.bind (M.nox ((evP e).1 ρ')) fun d => M.pure (some d)) xs []) fun ds => M.pure (.lst ds)
  | .lcif t it c e => dfl (.lcif t it c e) fun ρ => M.bind (evI it ρ) fun xs => M.bind (mapGo (fun x => M.bind (M.lift (bindT t x (wipeE ρ t.slots))) fun ρ' => M.bind (M.nox ((evP c).2 ρ')) fun b =>
      if b then M.bind (M.nox ((evP e).1 ρ')) fun d => M.pure (some d) else M.pure none) xs []) fun ds => M.pure (.lst ds)
  | .cup a b => dfl (.cup a b) fun ρ => M.bind ((evP a).1 ρ) fun x => M.bind ((evP b).1 ρ) fun y => M.bind (M.lift (asInt x)) fun i => M.bind (M.lift (asInt y)) fun j => newCup i j
  | .lam f e => dfl (.lam f e) fun ρ => told kin f ((evP e).1 ρ)
def evA : Exs → Env → M (List D)
  | .nil, _ => M.pure []
  | .cons e es, ρ => M.bind ((evP e).1 ρ) fun x => M.bind (evA es ρ) fun xs => M.pure (x :: xs)
/-- the same, names only read -/
def evB : Exs → Env → M (List D)
  | .nil, _ => M.pure []
  | .cons e es, ρ => M.bind (bor ρ ((evP e).1 ρ) e) fun x => M.bind (evB es ρ) fun xs => M.pure (x :: xs)
def evO : Opt → Env → M (Option Int)
  | .no, _ => M.pure none
  | .some e, ρ => M.bind ((evP e).1 ρ) fun x => M.bind (M.lift (asInt x)) fun i => M.pure (some i)
/-- what is walked -/
def evI : Itr → Env → M (List D)
  | .val e, ρ => M.bind ((evP e).1 ρ) fun x => M.lift (itemsOf x)
  | .rng1 a, ρ => M.bind ((evP a).1 ρ) fun x => M.bind (M.lift (asInt x)) fun i => if rngOk 0 i then M.pure (rangeD 0 i) else M.stuck
  | .rng2 a b, ρ => M.bind ((evP a).1 ρ) fun x => M.bind ((evP b).1 ρ) fun y => M.bind (M.lift (asInt x)) fun i => M.bind (M.lift (asInt y)) fun j => if rngOk i j then M.pure (rangeD i j) else M.stuck
  | .enum e, ρ => M.bind ((evP e).1 ρ) fun x => match x with
      | .lst xs => M.pure (enumD 0 xs)
      | .tup xs => M.pure (enumD 0 xs)
      | _ => M.stuck
  | .zip a b, ρ => M.bind ((evP a).1 ρ) fun x => M.bind ((evP b).1 ρ) fun y => match x, y with
      | .lst xs, .lst ys => M.pure (zipD xs ys)
      | .tup xs, .tup ys => M.pure (zipD xs ys)
      | .lst xs, .tup ys => M.pure (zipD xs ys)
      | .tup xs, .lst ys => M.pure (zipD xs ys)
      | _, _ => M.stuck
  | .items _, _ => M.stuck
end
def evE (e : Ex) (ρ : Env) : M D := (evP kin Φ e).1 ρ
def evT (e : Ex) (ρ : Env) : M Bool := (evP kin Φ e).2 ρ

inductive Out where | nx (ρ : Env) | rt (d : D) | bk (ρ : Env) | ct (ρ : Env)
def forGo (t : Tg) (b : Env → M Out) : List D → Env → M Out
  | [], ρ => M.pure (.nx ρ)
  | x :: xs, ρ => M.bind (M.lift (bindT t x ρ)) fun ρ' => M.bind (b ρ') fun o => match o with
    | .nx ρ'' => forGo t b xs ρ''
    | .ct ρ'' => forGo t b xs ρ''
    | .bk ρ'' => M.pure (.nx ρ'')
    | .rt d => M.pure (.rt d)
def whlGo (c : Env → M Bool) (b : Env → M Out) : Nat → Env → M Out
  | 0, _ => M.stuck
  | n + 1, ρ => M.bind (c ρ) fun k => if k then M.bind (b ρ) fun o => match o with
      | .nx ρ'' => whlGo c b n ρ''
      | .ct ρ'' => whlGo c b n ρ''
      | .bk ρ'' => M.pure (.nx ρ'')
      | .rt d => M.pure (.rt d)
    else M.pure (.nx ρ)
def setP (ρ : Env) : List (Nat × Bool) → List D → Option Env
  | [], [] => some ρ
  | (i, o) :: is, d :: ds => setP (if o then setW ρ i d else setS ρ i d) is ds
  | _, _ => none
def asLst : D → Option (List D)
  | .lst xs => some xs
  | _ => none
def setCup (k : Nat) (i : Int) : M Unit := fun c => match c with
  | some (x, y) => if k = 0 then .ok () (some (i, y)) else if k = 1 then .ok () (some (x, i)) else .stuck
  | none => .stuck
def catch_ (m : M D) (k : Str) (sub : Str → Str → Bool) (d : D) : M D := fun c => match m c with
  | .exc k' c => if sub k' k then .ok d c else .exc k' c
  | r => r
/-- what a slot may own -/
def asOwn : D → Option D
  | .lst xs => some (.lst xs)
  | .dct kvs => some (.dct kvs)
  | _ => none
def asDct : D → Option (List (D × D))
  | .dct kvs => some kvs
  | _ => none
def lstOnly (m : M D) : M D := M.bind m fun d => M.lift (asOwn d)
/-- arguments, some of which are to be owned -/
def evAF : List Bool → Exs → Env → M (List D)
  | [], .nil, _ => M.pure []
  | f :: fs, .cons e es, ρ => M.bind (if f then lstOnly (evE kin Φ e ρ) else evE kin Φ e ρ) fun x => M.bind (evAF fs es ρ) fun xs => M.pure (x :: xs)
  | _, _, _ => M.stuck
mutual
def evS : St → Env → M Out
  | .asg own i e, ρ => if own then M.bind (lstOnly (evE kin Φ e ρ)) fun d => M.pure (.nx (setW ρ i d)) else M.bind (evE kin Φ e ρ) fun d => M.pure (.nx (setS ρ i d))
  | .par is es, ρ => M.bind (evAF kin Φ (is.map (·.2)) es ρ) fun ds => M.bind (M.lift (setP ρ is ds)) fun ρ' => M.pure (.nx ρ')
  | .unp t e, ρ => M.bind (evE kin Φ e ρ) fun d => M.bind (M.lift (bindT t d ρ)) fun ρ' => M.pure (.nx ρ')
  | .app i e, ρ => M.bind (M.lift ((getO ρ i).bind asLst)) fun xs => M.bind (evE kin Φ e ρ) fun d => if small xs.length then M.pure (.nx (setW ρ i (.lst (xs ++ [d])))) else M.stuck
  | .setO i k e, ρ => M.bind (evE kin Φ e ρ) fun d => M.bind (M.lift ((getO ρ i).bind asLst)) fun xs => M.bind (evE kin Φ k ρ) fun j => M.bind (M.lift (asInt j)) fun j =>
      M.bind (M.lift (place xs.length j)) fun n => M.pure (.nx (setW ρ i (.lst (xs.set n d))))
  | .dset i k e, ρ => M.bind (evE kin Φ e ρ) fun d => M.bind (M.lift ((getO ρ i).bind asDct)) fun kvs => M.bind (evE kin Φ k ρ) fun a => M.bind (M.lift (keyD a)) fun kk =>
      if small kvs.length then M.pure (.nx (setW ρ i (.dct (dPut kvs kk a d)))) else M.stuck
  | .swp i k1 k2 e1 e2, ρ => M.bind (evE kin Φ e1 ρ) fun d1 => M.bind (evE kin Φ e2 ρ) fun d2 => M.bind (M.lift ((getO ρ i).bind asLst)) fun xs => M.bind (evE kin Φ k1 ρ) fun j1 => M.bind (M.lift (asInt j1)) fun j1 =>
      M.bind (M.lift (place xs.length j1)) fun n1 => M.bind (evE kin Φ k2 (setW ρ i (.lst (xs.set n1 d1)))) fun j2 => M.bind (M.lift (asInt j2)) fun j2 =>
      M.bind (M.lift (place xs.length j2)) fun n2 => M.pure (.nx (setW (setW ρ i (.lst (xs.set n1 d1))) i (.lst ((xs.set n1 d1).set n2 d2))))
  | .cupS i k e, ρ => M.bind (evE kin Φ e ρ) fun d => M.bind (M.lift (asInt d)) fun j => match getV ρ i with
      | some .cup => M.bind (setCup k j) fun _ => M.pure (.nx ρ)
      | _ => M.stuck
  | .ex e, ρ => M.bind (evE kin Φ e ρ) fun _ => M.pure (.nx ρ)
  | .ret e, ρ => M.bind (evE kin Φ e ρ) fun d => M.pure (.rt d)
  | .retN, _ => M.pure (.rt .non)
  | .ite c a b, ρ => M.bind (evT kin Φ c ρ) fun k => if k then evSs a ρ else evSs b ρ
  | .for t it b, ρ => M.bind (evI kin Φ it ρ) fun xs => forGo t (evSs b) xs ρ
  | .whl n c b, ρ => whlGo (evT kin Φ c) (evSs b) n ρ
  | .rse k, _ => M.exc k
  | .pass, ρ => M.pure (.nx ρ)
  | .brk, ρ => M.pure (.bk ρ)
  | .cont, ρ => M.pure (.ct ρ)
  | .share i s, ρ => M.bind (M.lift (getO ρ i)) fun d => evS s (setS ρ i d)
  | .tryR _ _ _, _ => M.stuck
def evSs : Sts → Env → M Out
  | .nil, ρ => M.pure (.nx ρ)
  | .cons s ss, ρ => M.bind (evS s ρ) fun o => match o with
    | .nx ρ' => evSs ss ρ'
    | o => M.pure o
end
end
/-- a def: how many slots, its parameters first -/
structure Fn where
  n : Nat
  ar : Nat
  body : Sts
def start (n : Nat) (ds : List D) : Env := ds.map (fun d => some (.sh d)) ++ List.replicate (n - ds.length) none
def evF (kin : Nat → Str → Option Str) (Φ : Orc) (f : Fn) (ds : List D) : M D :=
  if ds.length = f.ar then M.bind (evSs kin Φ f.body (start f.n ds)) fun o => match o with
    | .rt d => M.pure d
    | .nx _ => M.pure .non
    | _ => M.stuck
  else M.stuck
/-- the words of _law_kin -/
def kinW (ws : List (Str × Str)) : Nat → Str → Option Str := fun _ n => ws.lookup n
end PF
end

/-! ## PfS1 -/
section
/-! PfS1: what a value of the machine stands for; how that stays. -/
set_option linter.all false
set_option autoImplicit false
namespace PF
open PySem L2

mutual
def ofD : D → Option PyData
  | .non => some .none
  | .bl b => some (.bool b)
  | .int i => some (.int i)
  | .str x => some (.str x)
  | .tup xs => (ofDs xs).map .tuple
  | .lst xs => (ofDs xs).map .list
  | _ => none
def ofDs : List D → Option (List PyData)
  | [] => some []
  | x :: xs => match ofD x, ofDs xs with
    | some p, some ps => some (p :: ps)
    | _, _ => none
end
/-- the ghost: where the cup stands, which addresses may change -/
structure Gh where
  g : Option Addr
  B : Addr → Prop
  T : List (Addr × Str)
/-- no table of code objects -/
def nt : HO → Prop
  | .tbl _ => False
  | _ => True
def Gh.F (G : Gh) (a : Addr) : Prop := G.B a ∨ G.g = some a

/-- the heap without its tables -/
def nh (H : Hp) : Hp := fun a => match H a with
  | some (.tbl _) => none
  | o => o
theorem nh_some {H : Hp} {a : Addr} {o : HO} (h : H a = some o) (n : nt o) : nh H a = some o := by
  unfold nh
  rw [h]
  cases o <;> first | rfl | exact n.elim
theorem nh_none {H : Hp} {a : Addr} (h : H a = none) : nh H a = none := by
  unfold nh
  rw [h]
theorem nh_get {H : Hp} {a : Addr} (h : nh H a ≠ none) : ∃ o, H a = some o ∧ nt o := by
  unfold nh at h
  split at h
  · exact absurd rfl h
  · rename_i o hn
    cases e : H a with
    | none => exact absurd e h
    | some u => exact ⟨u, rfl, by cases u <;> first | exact True.intro | exact (hn _ e).elim⟩
theorem nh_no {H : Hp} {a : Addr} {o : HO} (h : H a = some o) (n : nt o) : nh H a ≠ none := by rw [nh_some h n]; intro z; cases z
theorem live_upd {H : Hp} {p : Addr} {o : HO} (k : nt o) : ∀ a, nh H a ≠ none → nh (upd H p o) a ≠ none := fun a n => by
  by_cases e : a = p
  · rw [e]; exact nh_no upd_same k
  · obtain ⟨u, h1, h2⟩ := nh_get n
    exact nh_no (o := u) (by rw [upd_ne e]; exact h1) h2
theorem nh_ne {H : Hp} {a p : Addr} {u : HO} (h : H a = some u) (n : nt u) (hp : nh H p = none) : a ≠ p := fun z => by
  rw [z] at h
  rw [nh_some h n] at hp
  cases hp
section
variable (K : PySem.W.Frag) (G : Gh) (H : Hp)
mutual
/-- the value v stands for the data d; nothing of it may change -/
def Den : V → D → Prop
  | v, .non => v = .non
  | v, .bl b => v = .bl b
  | v, .int i => v = .int i
  | v, .str x => v = .str x
  | v, .tup ds => ∃ a vs o, v = .ref a ∧ ¬ G.F a ∧ H a = some (.frz o (.tup vs)) ∧ o.dict = none ∧ DenL vs ds
  | v, .lst ds => ∃ a vs, v = .ref a ∧ ¬ G.F a ∧ H a = some (.lst vs) ∧ DenL vs ds
  | v, .cup => ∃ a, v = .ref a ∧ G.g = some a
  | v, .scr ns => ∃ a, v = .ref a ∧ ((∃ o, ¬ G.F a ∧ nt o ∧ H a = some o ∧ ∀ H', H' a = some o → SqL K H' a (ns.map V.int)) ∨ ∀ H', SqL K H' a (ns.map V.int))
  | v, .dct kvs => ∃ a o es ep, v = .ref a ∧ ¬ G.F a ∧ H a = some (.ext fun h => h.get? a = some o) ∧ o.ExactDict ∧ o.data = .dict es ep ∧ (a == sysModules) = false ∧ (kvs.map fun p => keyD p.1).Nodup ∧ kvs.length ≤ 1000001 ∧ DenE es.toList kvs
  | _, _ => False
def DenL : List V → List D → Prop
  | [], [] => True
  | v :: vs, d :: ds => Den v d ∧ DenL vs ds
  | _, _ => False
/-- the entries of a dict -/
def DenE : List DictEntry → List (D × D) → Prop
  | [], [] => True
  | e :: es, (a, b) :: kvs => (∃ k kv vv, keyD a = some k ∧ e.hash = hashN k ∧ RelV kv e.key ∧ Den kv a ∧ RelV vv e.val ∧ Den vv b) ∧ DenE es kvs
  | _, _ => False
end
end

/-- the heap and the ghost go on: all that was stands, but for the cup -/
structure Ext (G : Gh) (H : Hp) (G' : Gh) (H' : Hp) : Prop where
  keep : ∀ a o, H a = some o → nt o → G.g ≠ some a → H' a = some o
  cup : ∀ a, G.g = some a → G'.g = some a
  new : ∀ a, G'.g = some a → G.g = some a ∨ nh H a = none
  sub : ∀ a, G.B a → G'.B a
  add : ∀ a, G'.B a → G.B a ∨ nh H a = none
  live : ∀ a, nh H a ≠ none → nh H' a ≠ none
  tt : G'.T = G.T
/-- the tables of code objects -/
structure Tb (T : List (Addr × Str)) (H : Hp) : Prop where
  tabs : LamX.Tabs T H
theorem Tb.made {T : List (Addr × Str)} {H : Hp} {p : Addr} {o : HO} (t : Tb T H) (h : H p = none) (n : nt o) : Tb T (upd H p o) :=
  ⟨t.tabs.ext fun b u e => by rw [upd_ne (ne_of_none e h)]; exact e⟩
theorem Tb.upd {T : List (Addr × Str)} {H : Hp} {p : Addr} {xs : List V} {o : HO} (t : Tb T H) (h : H p = some (.lst xs)) (n : nt o) : Tb T (L2.upd H p o) := by
  refine ⟨fun q hq => ?_⟩
  · obtain ⟨ps, h1, h2, h3⟩ := t.tabs q hq
    refine ⟨ps, ?_, h2, fun pos cv hc => ?_⟩
    · rw [upd_ne (fun z => by rw [z, h] at h1; cases h1)]; exact h1
    · obtain ⟨c, e1, e2⟩ := h3 pos cv hc
      exact ⟨c, e1, by rw [upd_ne (fun z => by rw [z, h] at e2; cases e2)]; exact e2⟩
/-- what may change is there; the cup is none of it -/
structure Trk (G : Gh) (H : Hp) : Prop where
  there : ∀ a, G.B a → nh H a ≠ none
  apart : ∀ a, G.B a → G.g ≠ some a
  tb : Tb G.T H
def CupR (G : Gh) (H : Hp) : Cup → Prop
  | none => G.g = none
  | some (x, y) => ∃ a, G.g = some a ∧ H a = some (.lst [.int x, .int y])

theorem Ext.refl (G : Gh) (H : Hp) : Ext G H G H := ⟨fun _ _ h _ _ => h, fun _ h => h, fun _ h => .inl h, fun _ h => h, fun _ h => .inl h, fun _ h => h, rfl⟩
theorem CupR.there {G : Gh} {H : Hp} {c : Cup} (h : CupR G H c) {a : Addr} (e : G.g = some a) : nh H a ≠ none := by
  cases c with
  | none => rw [show G.g = none from h] at e; cases e
  | some p =>
    obtain ⟨b, e1, e2⟩ := h
    rw [e1] at e; cases e
    exact nh_no e2 True.intro
/-- how Den stays -/
structure Stb (G : Gh) (H : Hp) (G' : Gh) (H' : Hp) : Prop where
  keep : ∀ a o, H a = some o → nt o → ¬ G.F a → H' a = some o
  more : ∀ a, G'.F a → G.F a ∨ nh H a = none
  cup : ∀ a, G.g = some a → G'.g = some a
  live : ∀ a, nh H a ≠ none → nh H' a ≠ none
theorem Stb.refl (G : Gh) (H : Hp) : Stb G H G H := ⟨fun _ _ h _ _ => h, fun _ h => .inl h, fun _ h => h, fun _ h => h⟩
theorem Stb.trans {G G1 G2 : Gh} {H H1 H2 : Hp} (a : Stb G H G1 H1) (b : Stb G1 H1 G2 H2) : Stb G H G2 H2 where
  keep := fun x o h k n => b.keep x o (a.keep x o h k n) k fun z => by
    rcases a.more x z with z | z
    · exact n z
    · rw [nh_some h k] at z; cases z
  more := fun x h => by
    rcases b.more x h with z | z
    · exact a.more x z
    · refine .inr ?_
      cases q : nh H x with
      | none => rfl
      | some o => exact absurd z (a.live x (by rw [q]; intro z; cases z))
  cup := fun x h => b.cup x (a.cup x h)
  live := fun x h => b.live x (a.live x h)
theorem Ext.stb {G G' : Gh} {H H' : Hp} (e : Ext G H G' H') : Stb G H G' H' where
  keep := fun a o h k n => e.keep a o h k fun z => n (.inr z)
  more := fun a h => by
    rcases h with h | h
    · rcases e.add a h with z | z
      · exact .inl (.inl z)
      · exact .inr z
    · rcases e.new a h with z | z
      · exact .inl (.inr z)
      · exact .inr z
  cup := e.cup
  live := e.live
theorem Ext.back {G G' : Gh} {H H' : Hp} (e : Ext G H G' H') {a : Addr} (h : nh H' a = none) : nh H a = none := by
  cases q : nh H a with
  | none => rfl
  | some o => exact absurd h (e.live a (by rw [q]; intro z; cases z))
theorem Ext.trans {G G1 G2 : Gh} {H H1 H2 : Hp} (a : Ext G H G1 H1) (b : Ext G1 H1 G2 H2) : Ext G H G2 H2 where
  keep := fun x o h k n => b.keep x o (a.keep x o h k n) k fun z => by
    rcases a.new x z with z | z
    · exact n z
    · rw [nh_some h k] at z; cases z
  cup := fun x h => b.cup x (a.cup x h)
  new := fun x h => by
    rcases b.new x h with z | z
    · exact a.new x z
    · exact .inr (a.back z)
  sub := fun x h => b.sub x (a.sub x h)
  add := fun x h => by
    rcases b.add x h with z | z
    · exact a.add x z
    · exact .inr (a.back z)
  live := fun x h => b.live x (a.live x h)
  tt := b.tt.trans a.tt
theorem Ext.same {G G' : Gh} {H H' : Hp} (e : Ext G H G' H') {a : Addr} {o : HO} (h : H a = some o) (k : nt o) (n : G.g ≠ some a) : G'.g ≠ some a := fun z => by
  rcases e.new a z with z | z
  · exact n z
  · rw [nh_some h k] at z; cases z
/-- a new object -/
theorem Ext.made {G : Gh} {H : Hp} {p : Addr} {o : HO} (h : H p = none) (k : nt o := by exact True.intro) : Ext G H G (upd H p o) where
  keep := fun a u e _ _ => by rw [upd_ne (ne_of_none e h)]; exact e
  cup := fun _ h => h
  new := fun _ h => .inl h
  sub := fun _ h => h
  add := fun _ h => .inl h
  live := live_upd k
  tt := rfl
theorem Trk.made {G : Gh} {H : Hp} {p : Addr} {o : HO} (t : Trk G H) (h : H p = none) (n : nt o := by exact True.intro) : Trk G (upd H p o) :=
  ⟨fun a b => live_upd n a (t.there a b), t.apart, t.tb.made h n⟩
theorem CupR.made {G : Gh} {H : Hp} {p : Addr} {o : HO} {c : Cup} (t : CupR G H c) (h : H p = none) : CupR G (upd H p o) c := by
  cases c with
  | none => exact t
  | some q =>
    obtain ⟨a, e1, e2⟩ := t
    exact ⟨a, e1, by rw [upd_ne (ne_of_none e2 h)]; exact e2⟩
/-- a new address is none that may change -/
theorem not_F {G : Gh} {H : Hp} {p : Addr} {c : Cup} (t : Trk G H) (q : CupR G H c) (h : H p = none) : ¬ G.F p := fun z => by
  rcases z with z | z
  · exact t.there p z (nh_none h)
  · exact q.there z (nh_none h)

theorem sqT {K : PySem.W.Frag} {H : Hp} {a : Addr} {o : Obj} {vs : List V} (h : H a = some (.frz o (.tup vs))) : SqT K H a vs := .inl (.inr ⟨o, h⟩)
section
variable {K : PySem.W.Frag} {G G' : Gh} {H H' : Hp}
mutual
theorem Den.stay (s : Stb G H G' H') : ∀ (d : D) (v : V), Den K G H v d → Den K G' H' v d
  | .non, _, h => h
  | .bl _, _, h => h
  | .int _, _, h => h
  | .str _, _, h => h
  | .tup ds, v, h => by
    obtain ⟨a, vs, o, e, n, h1, hd, h2⟩ := h
    refine ⟨a, vs, o, e, fun z => ?_, s.keep a _ h1 True.intro n, hd, DenL.stay s ds vs h2⟩
    rcases s.more a z with z | z
    · exact n z
    · rw [nh_some h1 True.intro] at z; cases z
  | .lst ds, v, h => by
    obtain ⟨a, vs, e, n, h1, h2⟩ := h
    refine ⟨a, vs, e, fun z => ?_, s.keep a _ h1 True.intro n, DenL.stay s ds vs h2⟩
    rcases s.more a z with z | z
    · exact n z
    · rw [nh_some h1 True.intro] at z; cases z
  | .cup, v, h => by
    obtain ⟨a, e, n⟩ := h
    exact ⟨a, e, s.cup a n⟩
  | .scr ns, v, h => by
    obtain ⟨a, e, h⟩ := h
    rcases h with ⟨o, n, h0, h1, h2⟩ | h
    · refine ⟨a, e, .inl ⟨o, fun z => ?_, h0, s.keep a _ h1 h0 n, h2⟩⟩
      rcases s.more a z with z | z
      · exact n z
      · rw [nh_some h1 h0] at z; cases z
    · exact ⟨a, e, .inr h⟩
  | .dct kvs, v, h => by
    obtain ⟨a, o, es, ep, e, n, h1, h2, h3, h4, h5, h6, h7⟩ := h
    refine ⟨a, o, es, ep, e, fun z => ?_, s.keep a _ h1 True.intro n, h2, h3, h4, h5, h6, DenE.stay s kvs es.toList h7⟩
    rcases s.more a z with z | z
    · exact n z
    · rw [nh_some h1 True.intro] at z; cases z
  | .set _, _, h => h.elim
  | .exc _, _, h => h.elim
theorem DenL.stay (s : Stb G H G' H') : ∀ (ds : List D) (vs : List V), DenL K G H vs ds → DenL K G' H' vs ds
  | [], [], _ => True.intro
  | d :: ds, v :: vs, h => ⟨Den.stay s d v h.1, DenL.stay s ds vs h.2⟩
  | [], _ :: _, h => h.elim
  | _ :: _, [], h => h.elim
theorem DenE.stay (s : Stb G H G' H') : ∀ (kvs : List (D × D)) (es : List DictEntry), DenE K G H es kvs → DenE K G' H' es kvs
  | [], [], _ => True.intro
  | (a, b) :: kvs, e :: es, h => by
    obtain ⟨⟨k, p, vv, h1, h2, h3, h4, h5, h6⟩, h7⟩ := h
    exact ⟨⟨k, p, vv, h1, h2, h3, Den.stay s a p h4, h5, Den.stay s b vv h6⟩, DenE.stay s kvs es h7⟩
  | [], _ :: _, h => h.elim
  | (_, _) :: _, [], h => h.elim
end
theorem DenL.length : ∀ {ds : List D} {vs : List V}, DenL K G H vs ds → vs.length = ds.length
  | [], [], _ => rfl
  | _ :: _, _ :: _, h => by simp [DenL.length h.2]
  | [], _ :: _, h => h.elim
  | _ :: _, [], h => h.elim
theorem DenL.get : ∀ {ds : List D} {vs : List V} {i : Nat} {d : D}, DenL K G H vs ds → ds[i]? = some d → ∃ v, vs[i]? = some v ∧ Den K G H v d
  | d :: ds, v :: vs, 0, d', h, e => by simp at e; subst e; exact ⟨v, rfl, h.1⟩
  | d :: ds, v :: vs, i + 1, d', h, e => by
    obtain ⟨v', e', h'⟩ := DenL.get (i := i) h.2 (by simpa using e)
    exact ⟨v', by simpa using e', h'⟩
  | [], _, _, _, _, e => by simp at e
  | _ :: _, [], _, _, h, _ => h.elim
theorem DenL.app : ∀ {ds es : List D} {vs us : List V}, DenL K G H vs ds → DenL K G H us es → DenL K G H (vs ++ us) (ds ++ es)
  | [], _, [], _, _, h => h
  | _ :: _, _, _ :: _, _, a, h => ⟨a.1, DenL.app a.2 h⟩
  | [], _, _ :: _, _, h, _ => h.elim
  | _ :: _, _, [], _, h, _ => h.elim
theorem DenL.take : ∀ {ds : List D} {vs : List V} (n : Nat), DenL K G H vs ds → DenL K G H (vs.take n) (ds.take n)
  | [], [], n, _ => by simp [DenL]
  | _ :: _, _ :: _, 0, _ => by simp [DenL]
  | _ :: _, _ :: _, n + 1, h => ⟨h.1, DenL.take n h.2⟩
  | [], _ :: _, _, h => h.elim
  | _ :: _, [], _, h => h.elim
theorem DenL.drop : ∀ {ds : List D} {vs : List V} (n : Nat), DenL K G H vs ds → DenL K G H (vs.drop n) (ds.drop n)
  | [], [], n, _ => by simp [DenL]
  | _ :: _, _ :: _, 0, h => h
  | _ :: _, _ :: _, n + 1, h => DenL.drop n h.2
  | [], _ :: _, _, h => h.elim
  | _ :: _, [], _, h => h.elim
theorem DenL.set : ∀ {ds : List D} {vs : List V} (n : Nat) {v : V} {d : D}, DenL K G H vs ds → Den K G H v d → DenL K G H (vs.set n v) (ds.set n d)
  | [], [], n, _, _, _, _ => by simp [DenL]
  | _ :: _, _ :: _, 0, _, _, h, q => ⟨q, h.2⟩
  | _ :: _, _ :: _, n + 1, _, _, h, q => ⟨h.1, DenL.set n h.2 q⟩
  | [], _ :: _, _, _, _, h, _ => h.elim
  | _ :: _, [], _, _, _, h, _ => h.elim
theorem DenL.rep {ds : List D} {vs : List V} (h : DenL K G H vs ds) : ∀ k : Nat, DenL K G H (List.replicate k vs).flatten (List.replicate k ds).flatten
  | 0 => by simp [DenL]
  | k + 1 => by
    rw [List.replicate_succ, List.replicate_succ, List.flatten_cons, List.flatten_cons]
    exact h.app (h.rep k)
theorem DenL.rev : ∀ {ds : List D} {vs : List V}, DenL K G H vs ds → DenL K G H vs.reverse ds.reverse
  | [], [], _ => True.intro
  | d :: ds, v :: vs, h => by
    rw [List.reverse_cons, List.reverse_cons]
    exact (DenL.rev h.2).app ⟨h.1, True.intro⟩
  | [], _ :: _, h => h.elim
  | _ :: _, [], h => h.elim
theorem DenL.ints : ∀ {ds : List D} {vs : List V} {is : List Int}, DenL K G H vs ds → ints? ds = some is → vs = is.map V.int
  | [], [], is, _, e => by simp [ints?] at e; subst e; rfl
  | d :: ds, v :: vs, is, h, e => by
    cases d <;> simp [ints?] at e
    obtain ⟨js, e1, rfl⟩ := e
    have hv : v = V.int _ := h.1
    rw [DenL.ints h.2 e1, hv]
    rfl
  | [], _ :: _, _, h, _ => h.elim
  | _ :: _, [], _, h, _ => h.elim
theorem DenL.bls : ∀ {ds : List D} {vs : List V} {is : List Bool}, DenL K G H vs ds → bls? ds = some is → vs = is.map V.bl
  | [], [], is, _, e => by simp [bls?] at e; subst e; rfl
  | d :: ds, v :: vs, is, h, e => by
    cases d <;> simp [bls?] at e
    obtain ⟨js, e1, rfl⟩ := e
    have hv : v = V.bl _ := h.1
    rw [DenL.bls h.2 e1, hv]
    rfl
  | [], _ :: _, _, h, _ => h.elim
  | _ :: _, [], _, h, _ => h.elim
theorem DenL.ofInts : ∀ is : List Int, DenL K G H (is.map V.int) (is.map D.int)
  | [] => True.intro
  | _ :: is => ⟨rfl, DenL.ofInts is⟩
theorem DenL.range (lo hi : Int) : DenL K G H (rgV lo hi) (rangeD lo hi) := by
  unfold rgV rangeD
  generalize List.range (hi - lo).toNat = l
  induction l with
  | nil => exact True.intro
  | cons i l ih => exact ⟨rfl, ih⟩
mutual
theorem Den.data : ∀ (d : D) (n : Nat) (v : V), Den K G H v d → plainN d n = true → ∃ p, Dp K H v p ∧ PyData.canLay0 p = true ∧ PyData.depth p ≤ n ∧ ofD d = some p
  | .non, n, v, h, _ => by cases show v = .non from h; exact ⟨_, .non, rfl, Nat.zero_le _, rfl⟩
  | .bl b, n, v, h, _ => by cases show v = .bl b from h; exact ⟨_, .bl b, rfl, Nat.zero_le _, rfl⟩
  | .int i, n, v, h, _ => by cases show v = .int i from h; exact ⟨_, .int i, rfl, Nat.zero_le _, rfl⟩
  | .str x, n, v, h, p => by cases show v = .str x from h; exact ⟨_, .str x, p, Nat.zero_le _, rfl⟩
  | .tup ds, 0, v, h, p => by simp [plainN] at p
  | .lst ds, 0, v, h, p => by simp [plainN] at p
  | .tup ds, n + 1, v, h, p => by
    obtain ⟨a, vs, o, rfl, _, h1, _, h2⟩ := h
    obtain ⟨ps, q1, q2, q3, q4⟩ := DenL.data ds n vs h2 (by simpa [plainN] using p)
    exact ⟨.tuple ps, .tup (sqT h1) q1, q2, by simp only [PyData.depth]; omega, by simp [ofD, q4]⟩
  | .lst ds, n + 1, v, h, p => by
    obtain ⟨a, vs, rfl, _, h1, h2⟩ := h
    obtain ⟨ps, q1, q2, q3, q4⟩ := DenL.data ds n vs h2 (by simpa [plainN] using p)
    exact ⟨.list ps, .lst (.of h1) q1, q2, by simp only [PyData.depth]; omega, by simp [ofD, q4]⟩
  | .dct _, n, _, _, p => by cases n <;> simp [plainN] at p
  | .set _, _, _, h, _ => h.elim
  | .exc _, _, _, h, _ => h.elim
  | .cup, _, _, _, p => by simp [plainN] at p
  | .scr _, _, _, _, p => by simp [plainN] at p
theorem DenL.data : ∀ (ds : List D) (n : Nat) (vs : List V), DenL K G H vs ds → plainsN ds n = true → ∃ ps, DpAll K H vs ps ∧ PyData.canLayAll0 ps = true ∧ PyData.depthAll ps ≤ n ∧ ofDs ds = some ps
  | [], n, [], _, _ => ⟨[], .nil, rfl, Nat.zero_le _, rfl⟩
  | d :: ds, n, v :: vs, h, p => by
    have p' : plainN d n = true ∧ plainsN ds n = true := by simpa [plainsN] using p
    obtain ⟨q, a1, a2, a3, a4⟩ := Den.data d n v h.1 p'.1
    obtain ⟨qs, b1, b2, b3, b4⟩ := DenL.data ds n vs h.2 p'.2
    exact ⟨q :: qs, .cons a1 b1, by simp [PyData.canLayAll0, a2, b2], by simp only [PyData.depthAll]; omega, by simp [ofDs, a4, b4]⟩
  | [], _, _ :: _, h, _ => h.elim
  | _ :: _, _, [], h, _ => h.elim
end
end
mutual
theorem eqv_of : ∀ (d e : D) (p q : PyData), ofD d = some p → ofD e = some q → PyData.eqv p q = eqD d e := by
  intro d e p q h1 h2
  cases d <;> cases e <;> simp only [ofD, Option.some.injEq, Option.map_eq_some_iff, reduceCtorEq, false_and, exists_false] at h1 h2 <;> (try subst h1) <;> (try subst h2) <;> (try (obtain ⟨ps, h1, rfl⟩ := h1)) <;> (try (obtain ⟨qs, h2, rfl⟩ := h2)) <;> first | rfl | exact eqvAll_of _ _ _ _ h1 h2
theorem eqvAll_of : ∀ (ds es : List D) (ps qs : List PyData), ofDs ds = some ps → ofDs es = some qs → PyData.eqvAll ps qs = eqDs ds es
  | [], [], ps, qs, h1, h2 => by
    simp only [ofDs, Option.some.injEq] at h1 h2
    subst h1 h2; rfl
  | [], e :: es, ps, qs, h1, h2 => by
    simp only [ofDs, Option.some.injEq] at h1
    subst h1
    simp only [ofDs] at h2
    split at h2
    · cases h2; rfl
    · cases h2
  | d :: ds, [], ps, qs, h1, h2 => by
    simp only [ofDs, Option.some.injEq] at h2
    subst h2
    simp only [ofDs] at h1
    split at h1
    · cases h1; rfl
    · cases h1
  | d :: ds, e :: es, ps, qs, h1, h2 => by
    simp only [ofDs] at h1 h2
    split at h1
    · rename_i p ps' a1 a2
      split at h2
      · rename_i q qs' b1 b2
        cases h1; cases h2
        show (PyData.eqv p q && PyData.eqvAll ps' qs') = (eqD d e && eqDs ds es)
        rw [eqv_of d e p q a1 b1, eqvAll_of ds es ps' qs' a2 b2]
      · cases h2
    · cases h1
end
theorem any_of : ∀ (ds : List D) (ps : List PyData) (d : D) (p : PyData), ofDs ds = some ps → ofD d = some p → (ps.any fun z => PyData.eqv z p) = isIn d ds
  | [], ps, d, p, h1, _ => by
    simp only [ofDs, Option.some.injEq] at h1
    subst h1; rfl
  | x :: xs, ps, d, p, h1, h2 => by
    simp only [ofDs] at h1
    split at h1
    · rename_i q qs a1 a2
      cases h1
      show (PyData.eqv q p || qs.any fun z => PyData.eqv z p) = (eqD x d || xs.any fun y => eqD y d)
      rw [eqv_of x d q p a1 h2, any_of xs qs d p a2 h2]
      rfl
    · cases h1
theorem ofDs_length : ∀ {ds : List D} {ps : List PyData}, ofDs ds = some ps → ps.length = ds.length
  | [], ps, h => by simp only [ofDs, Option.some.injEq] at h; subst h; rfl
  | x :: xs, ps, h => by
    simp only [ofDs] at h
    split at h
    · rename_i q qs a1 a2
      cases h
      simp [ofDs_length a2]
    · cases h
theorem ofDs_get : ∀ {ds : List D} {ps : List PyData} {i : Nat} {p : PyData}, ofDs ds = some ps → ps[i]? = some p → ∃ d, ds[i]? = some d ∧ ofD d = some p
  | [], ps, i, p, h, e => by simp only [ofDs, Option.some.injEq] at h; subst h; simp at e
  | x :: xs, ps, i, p, h, e => by
    simp only [ofDs] at h
    split at h
    · rename_i q qs a1 a2
      cases h
      cases i with
      | zero => simp at e; subst e; exact ⟨x, rfl, a1⟩
      | succ i =>
        obtain ⟨d, e1, e2⟩ := ofDs_get (i := i) a2 (by simpa using e)
        exact ⟨d, by simpa using e1, e2⟩
    · cases h
theorem idxOf_some : ∀ {ds : List D} {d : D} {j : Nat}, idxOf? d ds = some j → (∃ z, ds[j]? = some z ∧ eqD z d = true) ∧ ∀ m z, m < j → ds[m]? = some z → eqD z d = false
  | [], _, _, h => by simp [idxOf?] at h
  | x :: xs, d, j, h => by
    simp only [idxOf?] at h
    split at h
    · rename_i e
      cases h
      exact ⟨⟨x, rfl, e⟩, fun m z hm => absurd hm (Nat.not_lt_zero _)⟩
    · rename_i e
      obtain ⟨k, h0, rfl⟩ := Option.map_eq_some_iff.mp h
      obtain ⟨⟨z, e1, e2⟩, h2⟩ := idxOf_some h0
      refine ⟨⟨z, by simpa using e1, e2⟩, fun m z hm hz => ?_⟩
      cases m with
      | zero => simp at hz; subst hz; simpa using e
      | succ m => exact h2 m z (by omega) (by simpa using hz)
end PF
end

/-! ## PfS2 -/
section
/-! PfS2: what an operation gives, by data. -/
set_option linter.all false
set_option autoImplicit false
namespace PF
open PySem L2

section
variable (K : PySem.W.Frag) (G : Gh) (H : Hp)
/-- a dict at an address -/
def DctAt (a : Addr) (kvs : List (D × D)) : Prop := ∃ o es ep, H a = some (.ext fun h => h.get? a = some o) ∧ o.ExactDict ∧ o.data = .dict es ep ∧ (a == sysModules) = false ∧ (kvs.map fun p => keyD p.1).Nodup ∧ kvs.length ≤ 1000001 ∧ DenE K G H es.toList kvs
/-- the same, of what is only read: a list or dict of the def's own too -/
def Bor (v : V) (d : D) : Prop := match d with
  | .lst ds => ∃ a vs, v = .ref a ∧ G.g ≠ some a ∧ H a = some (.lst vs) ∧ DenL K G H vs ds
  | .dct kvs => ∃ a, v = .ref a ∧ G.g ≠ some a ∧ DctAt K G H a kvs
  | d => Den K G H v d
def BorL : List V → List D → Prop
  | [], [] => True
  | v :: vs, d :: ds => Bor K G H v d ∧ BorL vs ds
  | _, _ => False
/-- a list or dict of the def's own -/
def Own (v : V) (d : D) : Prop := match d with
  | .lst ds => ∃ a vs, v = .ref a ∧ G.B a ∧ H a = some (.lst vs) ∧ DenL K G H vs ds
  | .dct kvs => ∃ a, v = .ref a ∧ G.B a ∧ DctAt K G H a kvs
  | _ => False
end
section
variable {K : PySem.W.Frag} {G G' : Gh} {H H' : Hp}
theorem Den.dctAt {v : V} {kvs : List (D × D)} (h : Den K G H v (.dct kvs)) : ∃ a, v = .ref a ∧ ¬ G.F a ∧ DctAt K G H a kvs := by
  obtain ⟨a, o, es, ep, e, n, h⟩ := h
  exact ⟨a, e, n, o, es, ep, h⟩
theorem DctAt.den {a : Addr} {kvs : List (D × D)} (h : DctAt K G H a kvs) (n : ¬ G.F a) : Den K G H (.ref a) (.dct kvs) := by
  obtain ⟨o, es, ep, h⟩ := h
  exact ⟨a, o, es, ep, rfl, n, h⟩
theorem DctAt.there {a : Addr} {kvs : List (D × D)} (h : DctAt K G H a kvs) : nh H a ≠ none := by
  obtain ⟨o, es, ep, h, _⟩ := h
  exact nh_no h True.intro
theorem DctAt.stb {a : Addr} {kvs : List (D × D)} (h : DctAt K G H a kvs) (s : Stb G H G' H') (k : H' a = H a) : DctAt K G' H' a kvs := by
  obtain ⟨o, es, ep, h0, h1, h2, h3, h4, h5, h6⟩ := h
  exact ⟨o, es, ep, k.trans h0, h1, h2, h3, h4, h5, DenE.stay s kvs es.toList h6⟩
theorem DctAt.keep {a : Addr} {kvs : List (D × D)} (h : DctAt K G H a kvs) (e : Ext G H G' H') (n : G.g ≠ some a) : DctAt K G' H' a kvs ∧ G'.g ≠ some a := by
  obtain ⟨o, es, ep, h0, h1⟩ := id h
  exact ⟨h.stb e.stb ((e.keep a _ h0 True.intro n).trans h0.symm), e.same h0 True.intro n⟩
theorem Den.bor {v : V} {d : D} (h : Den K G H v d) : Bor K G H v d := by
  cases d with
  | lst ds =>
    obtain ⟨a, vs, e, n, h1, h2⟩ := h
    exact ⟨a, vs, e, fun z => n (.inr z), h1, h2⟩
  | dct kvs =>
    obtain ⟨a, e, n, h⟩ := h.dctAt
    exact ⟨a, e, fun z => n (.inr z), h⟩
  | _ => exact h
theorem Own.bor {v : V} {d : D} (t : Trk G H) (h : Own K G H v d) : Bor K G H v d := by
  cases d with
  | lst ds =>
    obtain ⟨a, vs, e, n, h1, h2⟩ := h
    exact ⟨a, vs, e, t.apart a n, h1, h2⟩
  | dct kvs =>
    obtain ⟨a, e, n, h⟩ := h
    exact ⟨a, e, t.apart a n, h⟩
  | _ => exact h.elim
/-- a thing of the def's own stands at an address -/
theorem Own.ref {v : V} {d : D} (h : Own K G H v d) : ∃ a, v = .ref a ∧ G.B a ∧ nh H a ≠ none := by
  cases d with
  | lst ds =>
    obtain ⟨a, vs, e, n, h1, h2⟩ := h
    exact ⟨a, e, n, nh_no h1 True.intro⟩
  | dct kvs =>
    obtain ⟨a, e, n, h⟩ := h
    exact ⟨a, e, n, h.there⟩
  | _ => exact h.elim
theorem Bor.stay {v : V} {d : D} (e : Ext G H G' H') (h : Bor K G H v d) : Bor K G' H' v d := by
  cases d with
  | lst ds =>
    obtain ⟨a, vs, e1, n, h1, h2⟩ := h
    exact ⟨a, vs, e1, e.same h1 True.intro n, e.keep a _ h1 True.intro n, h2.stay e.stb⟩
  | dct kvs =>
    obtain ⟨a, e1, n, h⟩ := h
    obtain ⟨h2, n2⟩ := h.keep e n
    exact ⟨a, e1, n2, h2⟩
  | _ => exact Den.stay e.stb _ v h
theorem Own.stay {v : V} {d : D} (t : Trk G H) (e : Ext G H G' H') (h : Own K G H v d) : Own K G' H' v d := by
  cases d with
  | lst ds =>
    obtain ⟨a, vs, e1, n, h1, h2⟩ := h
    exact ⟨a, vs, e1, e.sub a n, e.keep a _ h1 True.intro (t.apart a n), h2.stay e.stb⟩
  | dct kvs =>
    obtain ⟨a, e1, n, h⟩ := h
    exact ⟨a, e1, e.sub a n, (h.keep e (t.apart a n)).1⟩
  | _ => exact h.elim
/-- an own thing stays own where it is left as it is -/
theorem Own.stb {v : V} {d : D} (h : Own K G H v d) (s : Stb G H G' H') (hB : ∀ a, v = .ref a → G.B a → G'.B a) (k : ∀ a, v = .ref a → H' a = H a) : Own K G' H' v d := by
  cases d with
  | lst ds =>
    obtain ⟨a, vs, e, n, h1, h2⟩ := h
    exact ⟨a, vs, e, hB a e n, (k a e).trans h1, h2.stay s⟩
  | dct kvs =>
    obtain ⟨a, e, n, h⟩ := h
    exact ⟨a, e, hB a e n, h.stb s (k a e)⟩
  | _ => exact h.elim
theorem Own.den {v : V} {d : D} (h : Own K G H v d) (s : Stb G H G' H') (hB : ∀ a, v = .ref a → G.B a → ¬ G'.F a) (k : ∀ a, v = .ref a → H' a = H a) : Den K G' H' v d := by
  cases d with
  | lst ds =>
    obtain ⟨a, vs, e, n, h1, h2⟩ := h
    exact ⟨a, vs, e, hB a e n, (k a e).trans h1, h2.stay s⟩
  | dct kvs =>
    obtain ⟨a, e, n, h⟩ := h
    subst e
    exact (h.stb s (k a rfl)).den (hB a rfl n)
  | _ => exact h.elim
theorem BorL.stay (e : Ext G H G' H') : ∀ {vs : List V} {ds : List D}, BorL K G H vs ds → BorL K G' H' vs ds
  | [], [], _ => True.intro
  | _ :: _, _ :: _, h => ⟨h.1.stay e, BorL.stay e h.2⟩
  | [], _ :: _, h => h.elim
  | _ :: _, [], h => h.elim
theorem Bor.data {v : V} {d : D} (h : Bor K G H v d) (p : plain d = true) : ∃ q, Dp K H v q ∧ SeqAt.shaped q = true ∧ ofD d = some q := by
  have fin : ∀ {q : PyData}, PyData.canLay0 q = true → PyData.depth q ≤ 20 → SeqAt.shaped q = true := fun {q} h1 h2 => by
    unfold SeqAt.shaped
    rw [h1, decide_eq_true (show q.depth ≤ 64 by omega)]
    rfl
  cases d with
  | lst ds =>
    obtain ⟨a, vs, rfl, n, h1, h2⟩ := h
    obtain ⟨ps, q1, q2, q3, q4⟩ := DenL.data ds 19 vs h2 (by simpa [plain, plainN] using p)
    exact ⟨.list ps, .lst (.of h1) q1, fin q2 (by simp only [PyData.depth]; omega), by simp [ofD, q4]⟩
  | dct kvs => simp [plain, plainN] at p
  | _ =>
    obtain ⟨q, q1, q2, q3, q4⟩ := Den.data _ 20 v h p
    exact ⟨q, q1, fin q2 q3, q4⟩
end

/-! ### what is wanted behind a part -/
/-- an exception's class and dict: only TooMany has fields -/
def IsKm (mg : Str → Option Value) (k : Str) (cv : Value) (dx : Option Addr) : Prop := mg k = some cv ∧ (k ≠ ("TooMany" : Str) → dx = none)
def IsK (X : Cx) (k : Str) (cv : Value) (dx : Option Addr) : Prop := IsKm X.mg k cv dx
section
variable (X : Cx) (W : WX) (σ : L2.St) {α ω : Type}
def Post (R : Gh → Hp → ω → α → Prop) (G : Gh) (H : Hp) (r : Res α) (Q : ω → Hp → Prop) : Prop := match r with
  | .ok d c => ∀ v H' G', Ext G H G' H' → Trk G' H' → CupR G' H' c → R G' H' v d → Q v H'
  | .exc k c => ∀ cv dx H' G', Ext G H G' H' → Trk G' H' → CupR G' H' c → IsK X k cv dx → W cv dx σ H'
  | .stuck => False
end
section
variable {X : Cx} {W : WX} {σ : L2.St} {α β ω ψ : Type} {R : Gh → Hp → ω → α → Prop} {S : Gh → Hp → ψ → β → Prop} {G G1 : Gh} {H H1 : Hp} {c c1 : Cup}
theorem Post.on {r : Res α} {Q : ω → Hp → Prop} (p : Post X W σ R G H r Q) (e : Ext G H G1 H1) : Post X W σ R G1 H1 r Q := by
  cases r with
  | ok d c => exact fun v H' G' e' => p v H' G' (e.trans e')
  | exc k c => exact fun cv dx H' G' e' => p cv dx H' G' (e.trans e')
  | stuck => exact p
theorem Post.bind {m : M α} {f : α → M β} {Q : ψ → Hp → Prop} {Q1 : ω → Hp → Prop} (p : Post X W σ S G H (M.bind m f c) Q)
    (h : ∀ d c1 v H1 G1, Ext G H G1 H1 → Trk G1 H1 → CupR G1 H1 c1 → R G1 H1 v d → Post X W σ S G1 H1 (f d c1) Q → Q1 v H1) : Post X W σ R G H (m c) Q1 := by
  unfold M.bind at p
  cases e : m c with
  | ok d c1 =>
    rw [e] at p
    exact fun v H1 G1 e1 t1 q1 r1 => h d c1 v H1 G1 e1 t1 q1 r1 (p.on e1)
  | exc k c1 =>
    rw [e] at p
    exact p
  | stuck =>
    rw [e] at p
    exact p
theorem Post.bindE {m : M α} {f : α → M β} {Q : ψ → Hp → Prop} {Q1 : ω → Hp → Prop} (p : Post X W σ S G H (M.bind m f c) Q)
    (h : ∀ d c1, m c = .ok d c1 → ∀ v H1 G1, Ext G H G1 H1 → Trk G1 H1 → CupR G1 H1 c1 → R G1 H1 v d → Post X W σ S G1 H1 (f d c1) Q → Q1 v H1) : Post X W σ R G H (m c) Q1 := by
  unfold M.bind at p
  cases e : m c with
  | ok d c1 =>
    rw [e] at p
    exact fun v H1 G1 e1 t1 q1 r1 => h d c1 e v H1 G1 e1 t1 q1 r1 (p.on e1)
  | exc k c1 =>
    rw [e] at p
    exact p
  | stuck =>
    rw [e] at p
    exact p
theorem Post.lift {o : Option α} {f : α → M β} {Q : ψ → Hp → Prop} (p : Post X W σ S G H (M.bind (M.lift o) f c) Q) : ∃ a, o = some a ∧ Post X W σ S G H (f a c) Q := by
  cases o with
  | none => exact p.elim
  | some a => exact ⟨a, rfl, p⟩
theorem Post.lift1 {o : Option α} {Q : ω → Hp → Prop} (p : Post X W σ R G H (M.lift o c) Q) : ∃ a, o = some a ∧ ∀ v H' G', Ext G H G' H' → Trk G' H' → CupR G' H' c → R G' H' v a → Q v H' := by
  cases o with
  | none => exact p.elim
  | some a => exact ⟨a, rfl, p⟩
end

/-! ### the slots -/
/-- P is the table of code objects of the def "law" -/
def LamP (K : PySem.W.Frag) (P : Addr) : Prop := ∃ (f c : Addr) (o oc : Obj) (fd : FuncData) (vs : Array Value), PySem.W.nsIn K mainGlobals "law" = some (some (.ref f)) ∧ K.lookup f = some o ∧ o.data = .func fd ∧ fd.code = .ref c ∧ K.lookup c = some oc ∧ oc.data = .fields vs ∧ vs[11]? = some (.ref P)
open Classical in
/-- the tables that may grow, as the written part tells -/
noncomputable def tabK (K : PySem.W.Frag) : List (Addr × Str) := if h : ∃ P, LamP K P then [(h.choose, ("law.<locals>.<lambda>" : Str))] else []
theorem tabK_of {K : PySem.W.Frag} {P : Addr} (h : LamP K P) : tabK K = [(P, ("law.<locals>.<lambda>" : Str))] := by
  have e : ∃ P, LamP K P := ⟨P, h⟩
  unfold tabK
  rw [dif_pos e]
  have h2 := e.choose_spec
  obtain ⟨f, c, o, oc, fd, vs, a1, a2, a3, a4, a5, a6, a7⟩ := h
  obtain ⟨f', c', o', oc', fd', vs', b1, b2, b3, b4, b5, b6, b7⟩ := h2
  rw [a1] at b1; cases b1
  rw [a2] at b2; cases b2
  rw [a3] at b3; cases b3
  rw [a4] at b4; cases b4
  rw [a5] at b5; cases b5
  rw [a6] at b6; cases b6
  rw [a7] at b7
  rw [Value.ref.inj (Option.some.inj b7)]
structure At (K : PySem.W.Frag) (G : Gh) (H : Hp) (σ : L2.St) (ρ : Env) (c : Cup) : Prop where
  sh : ∀ (i : Nat) (d : D), ρ[i]? = some (some (.sh d)) → ∃ v, σ[i]? = some (some v) ∧ Den K G H v d
  ow : ∀ (i : Nat) (d : D), ρ[i]? = some (some (.ow d)) → ∃ v, σ[i]? = some (some v) ∧ Own K G H v d
  trk : Trk G H
  cup : CupR G H c
  len : ρ.length = σ.length
  tq : G.T = tabK K
theorem At.stay {K : PySem.W.Frag} {G G' : Gh} {H H' : Hp} {σ : L2.St} {ρ : Env} {c c' : Cup} (a : At K G H σ ρ c) (e : Ext G H G' H') (t : Trk G' H') (q : CupR G' H' c') : At K G' H' σ ρ c' where
  sh := fun i d h => by
    obtain ⟨v, h1, h2⟩ := a.sh i d h
    exact ⟨v, h1, Den.stay e.stb d v h2⟩
  ow := fun i d h => by
    obtain ⟨v, h1, h2⟩ := a.ow i d h
    exact ⟨v, h1, h2.stay a.trk e⟩
  trk := t
  cup := q
  len := a.len
  tq := e.tt.trans a.tq
theorem getV_some {ρ : Env} {i : Nat} {d : D} (h : getV ρ i = some d) : ρ[i]? = some (some (.sh d)) := by
  unfold getV at h
  split at h
  · rename_i d' e
    cases h; exact e
  · cases h
theorem getO_some {ρ : Env} {i : Nat} {d : D} (h : getO ρ i = some d) : ρ[i]? = some (some (.ow d)) := by
  unfold getO at h
  split at h
  · rename_i d' e
    cases h; exact e
  · cases h
theorem At.getB {K : PySem.W.Frag} {G : Gh} {H : Hp} {σ : L2.St} {ρ : Env} {c : Cup} (a : At K G H σ ρ c) {i : Nat} {d : D} (h : getB ρ i = some d) : ∃ v, σ[i]? = some (some v) ∧ Bor K G H v d := by
  unfold PF.getB at h
  split at h
  · rename_i d' e
    cases h
    obtain ⟨v, h1, h2⟩ := a.sh i _ e
    exact ⟨v, h1, h2.bor⟩
  · rename_i d' e
    cases h
    obtain ⟨v, h1, h2⟩ := a.ow i _ e
    exact ⟨v, h1, h2.bor a.trk⟩
  · cases h

/-! ### parts and their meaning -/
section
variable (X : Cx) (W : WX)
abbrev DenR (K : PySem.W.Frag) : Gh → Hp → V → D → Prop := fun G H v d => Den K G H v d
abbrev BorR (K : PySem.W.Frag) : Gh → Hp → V → D → Prop := fun G H v d => Bor K G H v d
/-- an expression -/
def SE (e : Expr) (m : Env → M D) : Prop := ∃ t, PE X e t ∧ ∀ σ H G ρ c Q, At X.K G H σ ρ c → Post X W σ (DenR X.K) G H (m ρ c) Q → t σ H Q
/-- one that is only read -/
def SB (e : Expr) (m : Env → M D) : Prop := ∃ t, PE X e t ∧ ∀ σ H G ρ c Q, At X.K G H σ ρ c → Post X W σ (BorR X.K) G H (m ρ c) Q → t σ H Q
def ST (e : Expr) (m : Env → M Bool) : Prop := ∃ t, PT X e t ∧ ∀ σ H G ρ c Q, At X.K G H σ ρ c → Post X W σ (fun _ _ b b' => b = b') G H (m ρ c) Q → t σ H Q
def SA (es : List Expr) (m : Env → M (List D)) : Prop := ∃ t, PA X es t ∧ ∀ σ H G ρ c Q, At X.K G H σ ρ c → Post X W σ (fun G H vs ds => DenL X.K G H vs ds) G H (m ρ c) Q → t σ H Q
def SAB (es : List Expr) (m : Env → M (List D)) : Prop := ∃ t, PA X es t ∧ ∀ σ H G ρ c Q, At X.K G H σ ρ c → Post X W σ (fun G H vs ds => BorL X.K G H vs ds) G H (m ρ c) Q → t σ H Q
def SO (o : Option Expr) (m : Env → M (Option Int)) : Prop := ∃ t, PO X o t ∧ ∀ σ H G ρ c Q, At X.K G H σ ρ c → Post X W σ (fun _ _ b b' => b = b') G H (m ρ c) Q → t σ H Q
end
section
variable {X : Cx} {W : WX}
theorem SE.sb {e : Expr} {m : Env → M D} (h : SE X W e m) : SB X W e m := by
  obtain ⟨t, h1, h2⟩ := h
  refine ⟨t, h1, fun σ H G ρ c Q a p => h2 σ H G ρ c Q a ?_⟩
  cases e : m ρ c with
  | ok d c1 =>
    rw [e] at p
    exact fun v H1 G1 e1 t1 q1 r1 => p v H1 G1 e1 t1 q1 (Den.bor r1)
  | exc k c1 => rw [e] at p; exact p
  | stuck => rw [e] at p; exact p
/-- two operands, then what the operation asks -/
theorem se_bin {a b : Expr} {ma mb : Env → M D} {pos : Pos} {op : Operator} {o : Bop} {r : R2} (ho : OpR X (binaryOp op) r) (ha : SB X W a ma) (hb : SB X W b mb)
    (h : ∀ G H c v u x y z (Q : VK), Trk G H → CupR G H c → Bor X.K G H v x → Bor X.K G H u y → opB o x y = some z → (∀ w H' G', Ext G H G' H' → Trk G' H' → CupR G' H' c → Den X.K G' H' w z → Q w H') → r v u H Q) :
    SE X W (.BinOp a op b pos) fun ρ => M.bind (ma ρ) fun x => M.bind (mb ρ) fun y => M.lift (opB o x y) := by
  obtain ⟨ta, a1, a2⟩ := ha
  obtain ⟨tb, b1, b2⟩ := hb
  refine ⟨_, pe_op ho a1 b1, fun σ H G ρ c Q at0 p => ?_⟩
  refine a2 σ H G ρ c _ at0 (p.bind fun x c1 v H1 G1 e1 t1 q1 r1 p1 => ?_)
  refine b2 σ H1 G1 ρ c1 _ (at0.stay e1 t1 q1) (p1.bind fun y c2 u H2 G2 e2 t2 q2 r2 p2 => ?_)
  obtain ⟨z, ez, k⟩ := p2.lift1
  exact h G2 H2 c2 v u x y z Q t2 q2 (r1.stay e2) r2 ez k
end
end PF
end

/-! ## PfY1 -/
section
/-! PfY1: dicts whose keys are ints, None or (nested) tuples of such, in any mix: what looks up and stores. -/
set_option linter.all false
set_option autoImplicit false
set_option maxRecDepth 100000
set_option maxHeartbeats 2000000
namespace PF
open PySem
open Sem (wp)
abbrev Ents := List (NestedKey × Value × Value)
/-- a key that is no text -/
def notText : NestedKey → Prop
  | .text _ => False
  | _ => True
/-- v is the key k -/
structure NIs (h : Heap) (k : NestedKey) (v : Value) : Prop where
  is : NestedIs h k v
  deep : k.depth ≤ 8
  nt : notText k
def atN (xs : Ents) (k : NestedKey) : Option (Value × Value) := (xs.find? fun x => decide (x.1 = k)).map (·.2)
def putN (k : NestedKey) (v : Value) (x : NestedKey × Value × Value) : NestedKey × Value × Value := if x.1 = k then (x.1, x.2.1, v) else x
def storedN (xs : Ents) (k : NestedKey) (a v : Value) : Ents := if (atN xs k).isSome then xs.map (putN k v) else xs ++ [(k, a, v)]
def storedAllN (xs : Ents) (ps : Ents) : Ents := ps.foldl (fun ys p => storedN ys p.1 p.2.1 p.2.2) xs
def entN (w : World) (x : NestedKey × Value × Value) : DictEntry := ⟨x.1.hash w, x.2.1, x.2.2⟩
def DictN (w : World) (h : Heap) (d : Addr) (xs : Ents) : Prop :=
  ∃ o es ep, h.get? d = some o ∧ o.ExactDict ∧ o.data = .dict es ep ∧ es.toList = xs.map (entN w) ∧ (∀ x ∈ xs, NIs h x.1 x.2.1) ∧ (xs.map (·.1)).Nodup

theorem atN_get {xs : Ents} (hn : (xs.map (·.1)).Nodup) {i : Nat} {x : NestedKey × Value × Value} (hx : xs[i]? = some x) : atN xs x.1 = some x.2 := by
  induction xs generalizing i with
  | nil => simp at hx
  | cons y ys ih =>
    rw [List.map_cons, List.nodup_cons] at hn
    cases i with
    | zero =>
      simp at hx
      subst hx
      simp [atN]
    | succ j =>
      simp at hx
      have hne : y.1 ≠ x.1 := fun e => hn.1 (List.mem_map.mpr ⟨x, List.mem_of_getElem? hx, e.symm⟩)
      have h2 := ih hn.2 hx
      simpa [atN, List.find?_cons, hne] using h2
theorem atN_none {xs : Ents} {k : NestedKey} : atN xs k = none ↔ k ∉ xs.map (·.1) := by
  unfold atN
  rw [Option.map_eq_none_iff, List.find?_eq_none]
  constructor
  · intro h hm
    obtain ⟨x, hx, rfl⟩ := List.mem_map.mp hm
    simpa using h x hx
  · intro h x hx e
    exact h (List.mem_map.mpr ⟨x, hx, of_decide_eq_true e⟩)
theorem atN_some {xs : Ents} {k : NestedKey} {p : Value × Value} (h : atN xs k = some p) : ∃ x ∈ xs, x.1 = k ∧ x.2 = p := by
  unfold atN at h
  rw [Option.map_eq_some_iff] at h
  obtain ⟨x, hx, rfl⟩ := h
  exact ⟨x, List.mem_of_find?_eq_some hx, by simpa using List.find?_some hx, rfl⟩
theorem keys_putN (k : NestedKey) (v : Value) (xs : Ents) : (xs.map (putN k v)).map (·.1) = xs.map (·.1) := by
  rw [List.map_map]
  apply List.map_congr_left
  intro x _
  show (putN k v x).1 = x.1
  unfold putN
  split <;> rfl
theorem putN_off {k : NestedKey} {v : Value} {xs : Ents} (h : k ∉ xs.map (·.1)) : xs.map (putN k v) = xs := by
  have : ∀ x ∈ xs, putN k v x = x := fun x hx => by
    unfold putN
    rw [if_neg]
    intro e
    exact h (List.mem_map.mpr ⟨x, hx, e⟩)
  rw [List.map_congr_left this, List.map_id']
theorem modify_putN (w : World) {k : NestedKey} {v : Value} : ∀ {xs : Ents} {j : Nat} {x : NestedKey × Value × Value}, (xs.map (·.1)).Nodup → xs[j]? = some x → x.1 = k →
    (xs.map (entN w)).modify j (fun e => { e with val := v }) = (xs.map (putN k v)).map (entN w)
  | [], j, x, _, hj, _ => by simp at hj
  | y :: ys, 0, x, hn, hj, e => by
    simp at hj
    subst hj
    rw [List.map_cons, List.nodup_cons] at hn
    rw [List.map_cons, List.map_cons, List.map_cons, putN_off (by rw [← e]; exact hn.1)]
    have : putN k v y = (y.1, y.2.1, v) := by unfold putN; rw [if_pos e]
    rw [this]
    rfl
  | y :: ys, j + 1, x, hn, hj, e => by
    simp at hj
    rw [List.map_cons, List.nodup_cons] at hn
    have hne : ¬ y.1 = k := fun z => hn.1 (List.mem_map.mpr ⟨x, List.mem_of_getElem? hj, e.trans z.symm⟩)
    have : putN k v y = y := by unfold putN; rw [if_neg hne]
    rw [List.map_cons, List.map_cons, List.map_cons, this, List.modify_succ_cons, modify_putN w hn.2 hj e]
theorem storedN_new {xs : Ents} {k : NestedKey} (h : atN xs k = none) (a v : Value) : storedN xs k a v = xs ++ [(k, a, v)] := by simp [storedN, h]
theorem storedN_old {xs : Ents} {k : NestedKey} (h : (atN xs k).isSome = true) (a v : Value) : storedN xs k a v = xs.map (putN k v) := by simp [storedN, h]
theorem storedN_nodup {xs : Ents} {k : NestedKey} {a v : Value} (hn : (xs.map (·.1)).Nodup) : ((storedN xs k a v).map (·.1)).Nodup := by
  cases h : atN xs k with
  | none =>
    rw [storedN_new h, List.map_append, List.nodup_append]
    refine ⟨hn, by simp, fun x hx y hy e => ?_⟩
    simp at hy
    subst e hy
    exact atN_none.mp h hx
  | some p =>
    rw [storedN_old (by rw [h]; rfl), keys_putN]
    exact hn
theorem storedN_mem {xs : Ents} {k : NestedKey} {a v : Value} {P : NestedKey → Value → Prop} (h : ∀ x ∈ xs, P x.1 x.2.1) (hk : P k a) : ∀ x ∈ storedN xs k a v, P x.1 x.2.1 := by
  intro x hx
  cases e : atN xs k with
  | none =>
    rw [storedN_new e] at hx
    rcases List.mem_append.mp hx with hx | hx
    · exact h x hx
    · simp at hx
      subst hx
      exact hk
  | some p =>
    rw [storedN_old (by rw [e]; rfl)] at hx
    obtain ⟨y, hy, rfl⟩ := List.mem_map.mp hx
    unfold putN
    split <;> exact h y hy
theorem storedN_length (xs : Ents) (k : NestedKey) (a v : Value) : (storedN xs k a v).length ≤ xs.length + 1 := by
  unfold storedN
  split <;> simp
theorem storedAllN_length : ∀ (ps xs : Ents), (storedAllN xs ps).length ≤ xs.length + ps.length
  | [], xs => by simp [storedAllN]
  | p :: ps, xs => by
    have h1 := storedAllN_length ps (storedN xs p.1 p.2.1 p.2.2)
    have h2 := storedN_length xs p.1 p.2.1 p.2.2
    show (storedAllN (storedN xs p.1 p.2.1 p.2.2) ps).length ≤ _
    simp
    omega
theorem storedAllN_cons (p : NestedKey × Value × Value) (ps xs : Ents) : storedAllN xs (p :: ps) = storedAllN (storedN xs p.1 p.2.1 p.2.2) ps := rfl
theorem storedAllN_snoc (ps xs : Ents) (p : NestedKey × Value × Value) : storedAllN xs (ps ++ [p]) = storedN (storedAllN xs ps) p.1 p.2.1 p.2.2 := by
  unfold storedAllN
  rw [List.foldl_append]
  rfl
theorem storedAllN_take {xs ps : Ents} {i : Nat} {p : NestedKey × Value × Value} (h : ps[i]? = some p) : storedAllN xs (ps.take (i + 1)) = storedN (storedAllN xs (ps.take i)) p.1 p.2.1 p.2.2 := by
  rw [List.take_add_one, h]
  exact storedAllN_snoc _ _ _
theorem storedAllN_fresh : ∀ (ps xs : Ents), ((xs ++ ps).map (·.1)).Nodup → storedAllN xs ps = xs ++ ps
  | [], xs, _ => by simp [storedAllN]
  | p :: ps, xs, h => by
    have h0 : atN xs p.1 = none := atN_none.mpr fun hm => by
      rw [List.map_append, List.nodup_append] at h
      exact h.2.2 _ hm p.1 (by simp) rfl
    rw [storedAllN_cons, storedN_new h0, storedAllN_fresh ps (xs ++ [(p.1, p.2.1, p.2.2)]) (by simpa using h)]
    simp
theorem storedAllN_nil {ps : Ents} (h : (ps.map (·.1)).Nodup) : storedAllN [] ps = ps := by
  simpa using storedAllN_fresh ps [] (by simpa using h)

theorem NIs.keep {h h' : Heap} {k : NestedKey} {v : Value} {d : Addr} {o : Obj} {es : Array DictEntry} {ep : Nat} (x : NIs h k v) (ho : h.get? d = some o) (hd : o.data = .dict es ep) (hs : Heap.SameBut d h h') : NIs h' k v := by
  refine ⟨x.is.at (fun a oa vs n ha hc => ?_) , x.deep, x.nt⟩
  refine (hs.2 a fun e => ?_).trans ha
  rw [e, ho] at ha
  cases ha
  rw [hd] at hc
  cases hc
theorem DictN.typeIs {w : World} {s : Shared} {d : Addr} {xs : Ents} (hm : DictN w s.heap d xs) : s.TypeIs (.ref d) "dict" :=
  let ⟨o, _, _, ho, hc, _⟩ := hm; ⟨o, ho, hc.1⟩
theorem DictN.new (w : World) (h : Heap) : DictN w (h.push { cls := .type "dict", data := .dict #[] }) h.objs.size [] :=
  ⟨_, #[], 0, Heap.get?_push_size _ rfl, ⟨rfl, rfl, rfl⟩, rfl, rfl, fun _ hx => by simp at hx, List.nodup_nil⟩
theorem DictN.nodup {w : World} {h : Heap} {d : Addr} {xs : Ents} (x : DictN w h d xs) : (xs.map (·.1)).Nodup := let ⟨_, _, _, _, _, _, _, _, hn⟩ := x; hn
theorem ent_at {w : World} {es : Array DictEntry} {xs : Ents} (he : es.toList = xs.map (entN w)) (j : Nat) : es[j]? = (xs[j]?).map (entN w) := by
  rw [← Array.getElem?_toList, he, List.getElem?_map]
theorem ent_size {w : World} {es : Array DictEntry} {xs : Ents} (he : es.toList = xs.map (entN w)) : es.size = xs.length := by
  rw [← Array.length_toList, he, List.length_map]
theorem mem_places {n : Nat} {f : Nat → Option Int} {h : Int} {j : Nat} : j ∈ placesWithHash n f h ↔ j < n ∧ f j = some h := by
  unfold placesWithHash
  rw [List.mem_filter, List.mem_range]
  simp
theorem nodup_places {n : Nat} {f : Nat → Option Int} {h : Int} : (placesWithHash n f h).Nodup := List.Nodup.sublist List.filter_sublist List.nodup_range

section
variable {prog : Program} {w : World} {A : Around} {E : Value → Shared → Prop} {s : Shared}
theorem quiet_N {k : NestedKey} {v : Value} {Q : Bool → Shared → Prop} (hk : NIs s.heap k v) (h : Q true s) : wpAny (model prog w) A (eqIsQuiet 8 v) Q E s := quiet_key k v 8 s hk.is hk.deep A E Q h
theorem tells_N {k : NestedKey} {v : Value} {stored : List Value} {Q : Bool → Shared → Prop} (hk : NIs s.heap k v) (hst : ∀ u ∈ stored, ∃ k', NIs s.heap k' u) (h : Q false s) :
    wpAny (model prog w) A (tableMayTell v stored) Q E s := by
  unfold tableMayTell
  by_cases hi : stored.isEmpty = true
  · rw [if_pos hi]; exact wpAny_pure h
  rw [if_neg hi]
  refine wpAny_bind (quiet_N hk ?_)
  simp only [Bool.not_true, Bool.false_eq_true, if_false]
  refine wpAny_bind (wpAny_forIn_list _ (fun rest r s' => (s' = s ∧ r = (none, ())) ∧ ∀ u ∈ rest, ∃ k', NIs s.heap k' u) _ (fun x rest r s' hI => ?_) (fun r s' hI => ?_) _ _ ⟨⟨rfl, rfl⟩, hst⟩)
  · obtain ⟨⟨rfl, rfl⟩, hr⟩ := hI
    obtain ⟨k', hx⟩ := hr x List.mem_cons_self
    refine wpAny_bind (quiet_N hx ?_)
    simp only [Bool.not_true, Bool.false_eq_true, if_false]
    exact wpAny_pure ⟨⟨rfl, rfl⟩, fun u hu => hr u (List.mem_cons_of_mem _ hu)⟩
  · obtain ⟨⟨rfl, rfl⟩, _⟩ := hI
    exact wpAny_pure h
theorem eqB_N {x y : NestedKey} {a b : Value} {Q : Bool → Shared → Prop} (hu : A.units + 8 < cLine) (hx : NIs s.heap x a) (hy : NIs s.heap y b) (h : Q (decide (x = y)) s) : wpAny (model prog w) A (eqBool a b) Q E s :=
  eqAt_key x y A s _ _ hx.is hy.is (by have := hx.deep; omega) _ _ _ _ (by rw [← NestedKey.decide_eq]; exact h)
theorem hash_N {k : NestedKey} {v : Value} {Q : Int → Shared → Prop} (hu : A.units + 8 < cLine) (hk : NIs s.heap k v) (h : Q (k.hash w) { s with toks := s.toks + k.draws }) : wpAny (model prog w) A (pyHash v) Q E s :=
  pyHash_key k v A s Q hk.is (by have := hk.deep; omega) h

theorem find_N {d : Addr} {v : Value} {o : Obj} {es : Array DictEntry} {ep : Nat} {xs : Ents} {k : NestedKey} {Q : Option Nat → Shared → Prop} (hu : A.units + 8 < cLine) (hk : NIs s.heap k v)
    (ho : s.heap.get? d = some o) (hd : o.data = .dict es ep) (he : es.toList = xs.map (entN w)) (his : ∀ x ∈ xs, NIs s.heap x.1 x.2.1) (hn : (xs.map (·.1)).Nodup)
    (hnone : atN xs k = none → Q none s) (hsome : ∀ (j : Nat) x, xs[j]? = some x → x.1 = k → Q (some j) s) :
    wpAny (model prog w) A (dictFind d v (k.hash w)) Q E s := by
  have hsz : es.size = xs.length := ent_size he
  have hpl : ∀ (j : Nat) x, xs[j]? = some x → x.1 = k → j ∈ placesWithHash es.size (fun i => es[i]?.map (·.hash)) (k.hash w) := fun j x hj hx => by
    rw [mem_places, hsz]
    refine ⟨(List.getElem?_eq_some_iff.mp hj).1, ?_⟩
    rw [ent_at he j, hj, ← hx]
    rfl
  have hst : ∀ u ∈ (placesWithHash es.size (fun i => es[i]?.map (·.hash)) (k.hash w)).filterMap (fun i => es[i]?.map (·.key)), ∃ k', NIs s.heap k' u := by
    intro u hu
    obtain ⟨i, _, hi⟩ := List.mem_filterMap.mp hu
    rw [ent_at he i] at hi
    cases hx : xs[i]? with
    | none => rw [hx] at hi; cases hi
    | some x =>
      rw [hx] at hi
      simp [entN] at hi
      subst hi
      exact ⟨x.1, his x (List.mem_of_getElem? hx)⟩
  have hany : ¬ (es.any fun e => e.key == v && e.hash != k.hash w) = true := by
    rw [← Array.any_toList, List.any_eq_true]
    rintro ⟨e, hin, hc⟩
    rw [he] at hin
    obtain ⟨x, hx, rfl⟩ := List.mem_map.mp hin
    simp only [entN, Bool.and_eq_true, beq_iff_eq, bne_iff_ne, ne_eq] at hc
    have h1 := (his x hx).is
    rw [hc.1] at h1
    exact hc.2 (by rw [NestedIs.inj _ _ _ h1 hk.is])
  -- the plain walk
  have hplain : wpAny (model prog w) A (dictWalkPlain d v (k.hash w) es (placesWithHash es.size (fun i => es[i]?.map (·.hash)) (k.hash w))) Q E s := by
    unfold dictWalkPlain
    refine wpAny_bind (wpAny_forIn_list _ (fun rest b s' => (s' = s ∧ b = (none, ())) ∧ ∃ done, placesWithHash es.size (fun i => es[i]?.map (·.hash)) (k.hash w) = done ++ rest ∧ ∀ j ∈ done, ∀ x, xs[j]? = some x → x.1 ≠ k) _ (fun i rest b s' hI => ?_) (fun b s' hI => ?_) _ _ ⟨⟨rfl, rfl⟩, [], rfl, fun j hj => by cases hj⟩)
    · obtain ⟨⟨rfl, rfl⟩, done, hdn, hno⟩ := hI
      have hi : i ∈ placesWithHash es.size (fun i => es[i]?.map (·.hash)) (k.hash w) := by rw [hdn]; simp
      rw [mem_places, hsz] at hi
      obtain ⟨x, hx⟩ : ∃ x, xs[i]? = some x := ⟨xs[i]'hi.1, List.getElem?_eq_getElem hi.1⟩
      have hh : x.1.hash w = k.hash w := by
        have h2 := hi.2
        rw [ent_at he i, hx] at h2
        simpa [entN] using h2
      rw [ent_at he i, hx]
      simp only [Option.map_some, entN]
      rw [if_pos (by simp [hh])]
      refine wpAny_bind (wpAny_dictEpoch ho hd (wpAny_bind (eqB_N (x := x.1) (y := k) hu (his x (List.mem_of_getElem? hx)) hk (wpAny_bind (wpAny_dictEpoch ho hd ?_)))))
      rw [if_neg (by simp)]
      by_cases hkk : x.1 = k
      · rw [decide_eq_true hkk]
        exact wpAny_bind (wpAny_rule (wpAny_pure (wpAny_pure (hsome i x hx hkk))))
      · rw [decide_eq_false hkk]
        refine wpAny_bind (wpAny_rule (wpAny_pure ⟨⟨rfl, rfl⟩, done ++ [i], by rw [hdn]; simp, fun j hj y hy => ?_⟩))
        rcases List.mem_append.mp hj with hj | hj
        · exact hno j hj y hy
        · rw [List.mem_singleton.mp hj, hx] at hy
          cases hy
          exact hkk
    · obtain ⟨⟨rfl, rfl⟩, done, hdn, hno⟩ := hI
      rw [List.append_nil] at hdn
      refine wpAny_pure (hnone (atN_none.mpr fun hm => ?_))
      obtain ⟨x, hx, e⟩ := List.mem_map.mp hm
      obtain ⟨j, hj⟩ := List.mem_iff_getElem?.mp hx
      exact hno j (by rw [← hdn]; exact hpl j x hj e) x hj e
  have hv : v = .none ∨ (∃ b, v = .bool b) ∨ (∃ i t, v = .int i t) ∨ ∃ a, v = .ref a := by
    obtain ⟨hk1, _, hk3⟩ := hk
    cases hk1 with
    | none => exact .inl rfl
    | bool e => exact .inr (.inl ⟨_, rfl⟩)
    | int i t => exact .inr (.inr (.inl ⟨_, _, rfl⟩))
    | text x t => exact hk3.elim
    | tup => exact .inr (.inr (.inr ⟨_, rfl⟩))
  have nd := nodup_places (n := es.size) (f := fun i => es[i]?.map (·.hash)) (h := k.hash w)
  unfold dictFind
  refine wpAny_holding ?_
  refine wpAny_bind (wpAny_dictEntries ho hd ?_)
  rcases hv with rfl | ⟨b, rfl⟩ | ⟨i, t, rfl⟩ | ⟨a, rfl⟩
  all_goals
    dsimp only
    refine wpAny_ite_split (fun _ => hplain) (fun _ => ?_)
    try rw [if_neg hany]
    refine wpAny_ite_split (fun _ => ?_) (fun _ => ?_)
    all_goals
      first | refine wpAny_bind (wpAny_pure ?_) | refine wpAny_bind (tells_N hk hst ?_)
      rw [if_neg (by simp)]
      refine wpAny_bind (wpAny_forIn_list _ (fun rest b s' => s' = s ∧ ∃ hit done, b = (none, hit) ∧ placesWithHash es.size (fun i => es[i]?.map (·.hash)) (k.hash w) = done ++ rest ∧
        ((hit = none ∧ ∀ j ∈ done, ∀ x, xs[j]? = some x → x.1 ≠ k) ∨ ∃ j x, hit = some j ∧ j ∈ done ∧ xs[j]? = some x ∧ x.1 = k)) _ (fun i rest b s' hI => ?_) (fun b s' hI => ?_) _ _ ⟨rfl, none, [], rfl, rfl, .inl ⟨rfl, fun j hj => by cases hj⟩⟩)
      · obtain ⟨rfl, hit, done, rfl, hdn, hH⟩ := hI
        have hi : i ∈ placesWithHash es.size (fun i => es[i]?.map (·.hash)) (k.hash w) := by rw [hdn]; simp
        rw [mem_places, hsz] at hi
        obtain ⟨x, hx⟩ : ∃ x, xs[i]? = some x := ⟨xs[i]'hi.1, List.getElem?_eq_getElem hi.1⟩
        have hh : x.1.hash w = k.hash w := by
          have h2 := hi.2
          rw [ent_at he i, hx] at h2
          simpa [entN] using h2
        have hnx : i ∉ done := fun hm => by
          rw [hdn, List.nodup_append] at nd
          exact nd.2.2 i hm i (by simp) rfl
        have hd2 : placesWithHash es.size (fun i => es[i]?.map (·.hash)) (k.hash w) = (done ++ [i]) ++ rest := by rw [hdn]; simp
        rw [ent_at he i, hx]
        simp only [Option.map_some, entN]
        rw [if_pos (by simp [hh])]
        refine wpAny_bind (wpAny_dictEpoch ho hd (wpAny_bind (eqB_N (x := x.1) (y := k) hu (his x (List.mem_of_getElem? hx)) hk (wpAny_bind (wpAny_dictEpoch ho hd ?_)))))
        rw [if_neg (by simp)]
        by_cases hkk : x.1 = k
        · rw [decide_eq_true hkk]
          rcases hH with ⟨rfl, hno⟩ | ⟨j, y, _, hj, hy, hyk⟩
          · simp only [if_true, Option.isSome_none, Bool.false_eq_true, if_false]
            refine wpAny_bind (wpAny_rule ?_)
            split
            · exact wpAny_pure (wpAny_pure (hsome i x hx hkk))
            · exact wpAny_pure ⟨rfl, some i, done ++ [i], rfl, hd2, .inr ⟨i, x, rfl, by simp, hx, hkk⟩⟩
          · exfalso
            have hji : j = i := by
              have e1 : (xs.map (·.1))[j]? = some k := by rw [List.getElem?_map, hy, ← hyk]; rfl
              have e2 : (xs.map (·.1))[i]? = some k := by rw [List.getElem?_map, hx, ← hkk]; rfl
              exact (List.getElem?_inj (List.getElem?_eq_some_iff.mp e1).1 hn).mp (e1.trans e2.symm)
            exact hnx (hji ▸ hj)
        · rw [decide_eq_false hkk]
          simp only [Bool.false_eq_true, if_false]
          refine wpAny_bind (wpAny_rule ?_)
          rw [if_neg (by simp)]
          refine wpAny_pure ⟨rfl, hit, done ++ [i], rfl, hd2, ?_⟩
          rcases hH with ⟨rfl, hno⟩ | ⟨j, y, e, hj, hy⟩
          · refine .inl ⟨rfl, fun j hj y hy => ?_⟩
            rcases List.mem_append.mp hj with hj | hj
            · exact hno j hj y hy
            · rw [List.mem_singleton.mp hj, hx] at hy
              cases hy
              exact hkk
          · exact .inr ⟨j, y, e, by simp [hj], hy⟩
      · obtain ⟨rfl, hit, done, rfl, hdn, hH⟩ := hI
        rw [List.append_nil] at hdn
        rcases hH with ⟨rfl, hno⟩ | ⟨j, y, rfl, hj, hy, hyk⟩
        · refine wpAny_pure (hnone (atN_none.mpr fun hm => ?_))
          obtain ⟨x, hx, e⟩ := List.mem_map.mp hm
          obtain ⟨j, hj⟩ := List.mem_iff_getElem?.mp hx
          exact hno j (by rw [← hdn]; exact hpl j x hj e) x hj e
        · exact wpAny_pure (hsome j y hy hyk)

theorem get_N {d : Addr} {v : Value} {xs : Ents} {k : NestedKey} {Q : Option Value → Shared → Prop} (hu : A.units + 8 < cLine) (hk : NIs s.heap k v) (hm : DictN w s.heap d xs)
    (h : Q ((atN xs k).map (·.2)) { s with toks := s.toks + k.draws }) : wpAny (model prog w) A (dictGet d v) Q E s := by
  obtain ⟨o, es, ep, ho, _, hd, he, his, hn⟩ := hm
  unfold dictGet
  refine wpAny_holding (wpAny_bind (hash_N hu hk (wpAny_bind (find_N (s := { s with toks := s.toks + k.draws }) hu hk ho hd he his hn (fun hno => ?_) fun j x hj e => ?_))))
  · rw [hno] at h
    exact wpAny_pure h
  · rw [← e, atN_get hn hj] at h
    refine wpAny_bind (wpAny_dictEntries (s := { s with toks := s.toks + k.draws }) ho hd ?_)
    rw [ent_at he j, hj, ← e]
    exact wpAny_pure h
theorem DictN.put {h h' : Heap} {d : Addr} {o o' : Obj} {es es' : Array DictEntry} {ep ep' : Nat} {xs : Ents} {k : NestedKey} {v u : Value} (ho : h.get? d = some o) (hd : o.data = .dict es ep) (his : ∀ x ∈ xs, NIs h x.1 x.2.1) (hn : (xs.map (·.1)).Nodup) (hk : NIs h k v)
    (ho' : h'.get? d = some o') (hx' : o'.ExactDict) (hd' : o'.data = .dict es' ep') (he' : es'.toList = (storedN xs k v u).map (entN w)) (hs : Heap.SameBut d h h') : DictN w h' d (storedN xs k v u) :=
  ⟨o', es', ep', ho', hx', hd', he', storedN_mem (P := NIs h') (fun x hx => (his x hx).keep ho hd hs) (hk.keep ho hd hs), storedN_nodup hn⟩
theorem push_ents {es : Array DictEntry} {xs : Ents} (he : es.toList = xs.map (entN w)) {k : NestedKey} (hno : atN xs k = none) (v u : Value) : (es.push ⟨k.hash w, v, u⟩).toList = (storedN xs k v u).map (entN w) := by
  rw [storedN_new hno]
  simp [he, entN]
theorem modify_ents {es : Array DictEntry} {xs : Ents} (he : es.toList = xs.map (entN w)) (hn : (xs.map (·.1)).Nodup) {k : NestedKey} {j : Nat} {x : NestedKey × Value × Value} (hj : xs[j]? = some x) (e : x.1 = k) (v u : Value) :
    (es.modify j fun e => { e with val := u }).toList = (storedN xs k v u).map (entN w) := by
  rw [storedN_old (by rw [← e, atN_get hn hj]; rfl), Array.toList_modify, he]
  exact modify_putN w hn hj e
/-- d[k] = u, the hash known, by the road of **  -/
theorem put_N {d : Addr} {v u : Value} {xs : Ents} {k : NestedKey} {Q : Unit → Shared → Prop} (hu : A.units + 8 < cLine) (hk : NIs s.heap k v) (hm : DictN w s.heap d xs) (hsz : xs.length ≤ sizeLine)
    (hQ : ∀ h', DictN w h' d (storedN xs k v u) → Heap.SameBut d s.heap h' → Q () { s with heap := h' }) : wpAny (model prog w) A (dictPut d (k.hash w) v u) Q E s := by
  obtain ⟨o, es, ep, ho, hc, hd, he, his, hn⟩ := hm
  unfold dictPut
  refine wpAny_bind (find_N hu hk ho hd he his hn (fun hno => ?_) fun j x hj e => ?_)
  · have hs : Heap.SameBut d s.heap (s.heap.update d (Obj.mapDictKeys (·.push ⟨k.hash w, v, u⟩))) := Heap.SameBut.update ..
    exact wpAny_updateDictKeys (hz := by rw [ent_size he]; exact hsz) ho hd (hQ _ (DictN.put ho hd his hn hk (Heap.get?_update_self _ ho (Obj.isFreed_of_dict (Obj.data_mapDictKeys hd _))) (hc.mapDictKeys _) (Obj.data_mapDictKeys hd _) (push_ents he hno v u) hs) hs)
  · have hs : Heap.SameBut d s.heap (s.heap.update d (Obj.mapDict (·.modify j fun e => { e with val := u }))) := Heap.SameBut.update ..
    exact wpAny_updateDict ho hd (hQ _ (DictN.put ho hd his hn hk (Heap.get?_update_self _ ho (Obj.isFreed_of_dict (Obj.data_mapDict hd _))) (hc.mapDict _) (Obj.data_mapDict hd _) (modify_ents he hn hj e v u) hs) hs)
/-- d[k] = u -/
theorem set_N {d : Addr} {v u : Value} {xs : Ents} {k : NestedKey} {Q : Unit → Shared → Prop} (hu : A.units + 8 < cLine) (hk : NIs s.heap k v) (hm : DictN w s.heap d xs) (hsz : xs.length ≤ sizeLine)
    (hQ : ∀ h' tk, DictN w h' d (storedN xs k v u) → Heap.SameBut d s.heap h' → Q () { s with heap := h', toks := tk }) : wpAny (model prog w) A (dictSet d v u) Q E s := by
  obtain ⟨o, es, ep, ho, hc, hd, he, his, hn⟩ := hm
  unfold dictSet
  refine wpAny_holding (wpAny_bind (hash_N hu hk ?_))
  unfold dictSetHashed
  refine wpAny_holding (wpAny_bind (find_N (s := { s with toks := s.toks + k.draws }) hu hk ho hd he his hn (fun hno => ?_) fun j x hj e => ?_))
  · have hs : Heap.SameBut d s.heap (s.heap.update d (Obj.mapDictKeys (·.push ⟨k.hash w, v, u⟩))) := Heap.SameBut.update ..
    exact wpAny_bind (wpAny_rule (wpAny_updateDictKeys (hz := by rw [ent_size he]; exact hsz) (s := { s with toks := s.toks + k.draws }) ho hd (hQ _ _ (DictN.put ho hd his hn hk (Heap.get?_update_self _ ho (Obj.isFreed_of_dict (Obj.data_mapDictKeys hd _))) (hc.mapDictKeys _) (Obj.data_mapDictKeys hd _) (push_ents he hno v u) hs) hs)))
  · have hs : Heap.SameBut d s.heap (s.heap.update d (Obj.mapDict (·.modify j fun e => { e with val := u }))) := Heap.SameBut.update ..
    exact wpAny_bind (wpAny_rule (wpAny_bind (wpAny_updateDict (s := { s with toks := s.toks + k.draws }) ho hd (wpAny_point (hQ _ _ (DictN.put ho hd his hn hk (Heap.get?_update_self _ ho (Obj.isFreed_of_dict (Obj.data_mapDict hd _))) (hc.mapDict _) (Obj.data_mapDict hd _) (modify_ents he hn hj e v u) hs) hs)))))
end
end PF
end

/-! ## PfY2 -/
section
/-! PfY2: dicts of any keys: merging, displays, in, d[k], d.get, d[k] = v, dict(x). -/
set_option linter.all false
set_option autoImplicit false
set_option maxRecDepth 100000
set_option maxHeartbeats 2000000
namespace PF
open PySem
open Sem (wp)
section
variable {prog : Program} {w : World} {A : Around} {E : Value → Shared → Prop} {s : Shared}
/-- the keys of what is merged into an empty dict: numbers, or tuples no two of which hash alike -/
def Apart (w : World) (xs : Ents) : Prop := ∀ x ∈ xs, carriedByValue x.2.1 = true ∨ (xs.filter fun y => y.1.hash w == x.1.hash w).length ≤ 1
theorem apart_key {es : Array DictEntry} {xs : Ents} (he : es.toList = xs.map (entN w)) (his : ∀ x ∈ xs, NIs s.heap x.1 x.2.1) (ha : Apart w xs) : ∀ e ∈ es.toList, KeyApart s es e := by
  intro e hm
  have h0 := he
  rw [he] at hm
  obtain ⟨x, hx, rfl⟩ := List.mem_map.mp hm
  rcases ha x hx with h | h
  · exact .inl h
  · have hk := (his x hx).is
    cases hv : x.2.1 with
    | ref a =>
      rw [hv] at hk
      generalize x.1 = kk at hk
      cases hk with
      | tup h1 h2 h3 h4 =>
        refine .inr ⟨a, hv, ⟨_, h1, h2⟩, ?_⟩
        rw [← Array.length_toList, Array.toList_filter, h0, List.filter_map, List.length_map]
        exact h
    | _ => exact .inl (by show carriedByValue x.2.1 = true; rw [hv]; rfl)
theorem DictN.other {h h' : Heap} {d o : Addr} {xs ys : Ents} (x : DictN w h o ys) (hd : DictN w h d xs) (hdo : d ≠ o) (hs : Heap.SameBut d h h') : DictN w h' o ys := by
  obtain ⟨od, esd, epd, hod, hcd, hdd, _⟩ := hd
  obtain ⟨oo, eso, epo, hoo, hco, hdo', he, his, hn⟩ := x
  exact ⟨oo, eso, epo, (hs.2 o (Ne.symm hdo)).trans hoo, hco, hdo', he, fun y hy => (his y hy).keep hod hdd hs, hn⟩
theorem merge_N {d o : Addr} {xs more : Ents} {Q : Unit → Shared → Prop} (hu : A.units + 8 < cLine) (hdo : d ≠ o) (hoS : (o == sysModules) = false)
    (hd : DictN w s.heap d xs) (ho : DictN w s.heap o more) (hap : xs ≠ [] ∨ Apart w more) (hsz : xs.length + more.length ≤ sizeLine)
    (hQ : ∀ h', DictN w h' d (storedAllN xs more) → DictN w h' o more → Heap.SameBut d s.heap h' → Q () { s with heap := h' }) :
    wpAny (model prog w) A (mergeMapping d (.ref o) false) Q E s := by
  obtain ⟨od, esd, epd, hod, hcd, hdd, hed, hisd, hnd⟩ := id hd
  obtain ⟨oo, eso, epo, hoo, hco, hdo', heo, hiso, hno⟩ := id ho
  have hlen : eso.size = more.length := ent_size heo
  unfold mergeMapping
  refine wpAny_bind (wpAny_isInstance ho.typeIs isSubtype_dict_dict ?_)
  simp only [if_true]
  refine wpAny_bind (wpAny_specialOf ho.typeIs F.slot_dict_iter.lookup ?_)
  refine wpAny_bind (wpAny_pure ?_)
  simp only [beq_self_eq_true]
  rw [hoS]
  simp only [Bool.false_eq_true, if_false]
  refine wpAny_bind (wpAny_dictEntries hod hdd ?_)
  have loop : wpAny (model prog w) A (do
      let l ← dictEntries o
      let epoch ← dictEpoch o
      forIn (List.range l.size) PUnit.unit fun i (_ : PUnit) => (do
          let l' ← dictEntries o
          match l'[i]? with
            | some e => do
              holding [e.key, e.val] (dictPut d e.hash e.key e.val)
              let ep' ← dictEpoch o
              if (ep' != epoch) = true then do
                  (unsupported "dict.changed-during-merge" : Sem PUnit)
                  pure (ForInStep.yield PUnit.unit)
                else pure (ForInStep.yield PUnit.unit)
            | _ => do
              (unsupported "dict.changed-during-merge" : Sem PUnit)
              pure (ForInStep.yield PUnit.unit) : Sem (ForInStep PUnit))
      pure ()) Q E s := by
    refine wpAny_bind (wpAny_dictEntries hoo hdo' ?_)
    refine wpAny_bind (wpAny_dictEpoch hoo hdo' ?_)
    refine wpAny_bind ?_
    refine wpAny_forIn_list _
      (fun rest _ s' => ∃ h' i, s' = { s with heap := h' } ∧ List.range eso.size = List.range i ++ rest ∧ i ≤ eso.size ∧ DictN w h' d (storedAllN xs (more.take i)) ∧ DictN w h' o more ∧ h'.get? o = some oo ∧ Heap.SameBut d s.heap h')
      _ (fun x rest b s' hI => ?_) (fun b s' hI => ?_) _ _ ⟨s.heap, 0, rfl, rfl, Nat.zero_le _, by simpa [storedAllN] using hd, ho, hoo, Heap.SameBut.refl _ _⟩
    · obtain ⟨h', i, rfl, hr, hi, hd', ho', hoo', hs'⟩ := hI
      have hlt : i < eso.size := by
        have := congrArg List.length hr
        simp at this
        omega
      have hxi : x = i := by
        have := congrArg (fun l => l[i]?) hr
        simpa [hlt] using this.symm
      subst hxi
      refine wpAny_bind (wpAny_dictEntries hoo' hdo' ?_)
      obtain ⟨y, hy⟩ : ∃ y, more[x]? = some y := ⟨more[x]'(by rw [← hlen]; exact hlt), List.getElem?_eq_getElem _⟩
      rw [ent_at heo x, hy]
      have hmx : (storedAllN xs (more.take x)).length ≤ sizeLine := by
        have e1 := storedAllN_length (more.take x) xs
        have e2 : (more.take x).length ≤ more.length := by rw [List.length_take]; omega
        omega
      have hkey : NIs h' y.1 y.2.1 := by
        obtain ⟨_, _, _, _, _, _, _, his', _⟩ := ho'
        exact his' y (List.mem_of_getElem? hy)
      refine wpAny_bind (wpAny_holding (put_N (s := { s with heap := h' }) hu hkey hd' hmx fun h'' hd'' hs'' => ?_))
      have hoo'' : h''.get? o = some oo := (hs''.2 o (Ne.symm hdo)).trans hoo'
      refine wpAny_bind (wpAny_dictEpoch hoo'' hdo' ?_)
      rw [if_neg (by simp)]
      refine wpAny_pure ⟨h'', x + 1, rfl, by rw [hr, List.range_succ]; simp, hlt, by rw [storedAllN_take hy]; exact hd'', ho'.other hd' hdo hs'', hoo'', hs'.trans hs''⟩
    · obtain ⟨h', i, rfl, hr, hi, hd', ho', hoo', hs'⟩ := hI
      have hin : i = more.length := by
        have := congrArg List.length hr
        simp at this
        omega
      refine wpAny_pure (hQ h' ?_ ho' hs')
      rw [hin, List.take_length] at hd'
      exact hd'
  refine wpAny_ite_split (fun hemp => ?_) (fun _ => loop)
  have hkvs : xs = [] := by
    have h0 : esd = #[] := Array.isEmpty_iff.mp hemp
    have := ent_size hed
    rw [h0] at this
    exact List.length_eq_zero_iff.mp (by simpa using this.symm)
  have hap' := hap.resolve_left fun h => h hkvs
  refine wpAny_bind (wpAny_dictEntries hoo hdo' ?_)
  refine wpAny_bind ?_
  have hq := apart_key (s := s) heo hiso hap'
  rw [← Array.forIn_toList]
  refine wpAny_forIn_list _ (fun rest _ s' => s' = s ∧ ∀ e ∈ rest, KeyApart s eso e) _ (fun e rest b s' hI => ?_) (fun b s' hI => ?_) _ _ ⟨rfl, hq⟩
  · obtain ⟨rfl, hall⟩ := hI
    have hrest : ∀ x ∈ rest, KeyApart s' eso x := fun x hx => hall x (List.mem_cons_of_mem _ hx)
    rcases hall e List.mem_cons_self with hv | ⟨a, hk, hT, h1⟩
    · cases hkk : e.key with
      | ref a => rw [hkk] at hv; cases hv
      | _ => exact wpAny_pure ⟨rfl, hrest⟩
    · rw [hk]
      refine wpAny_bind (wpAny_specialOf hT F.slot_tuple_eq.lookup ?_)
      refine wpAny_ite_split (fun _ => ?_) (fun _ => wpAny_pure ⟨rfl, hrest⟩)
      rw [if_neg (by omega)]
      exact wpAny_pure ⟨rfl, hrest⟩
  · obtain ⟨rfl, _⟩ := hI
    exact loop

/-! ### displays -/
def CarN (h : Heap) : List (Value × Value) → Ents → Prop
  | [], [] => True
  | (a, b) :: vs, p :: ps => (p.2.1 = a ∧ p.2.2 = b ∧ NIs h p.1 a) ∧ CarN h vs ps
  | _, _ => False
theorem CarN.len {h : Heap} : ∀ {vs : List (Value × Value)} {ps : Ents}, CarN h vs ps → ps.length = vs.length
  | [], [], _ => rfl
  | (_, _) :: _, _ :: _, c => by simp [CarN.len c.2]
  | [], _ :: _, c => c.elim
  | (_, _) :: _, [], c => c.elim
theorem CarN.keep {h h' : Heap} {d : Addr} {o : Obj} {es : Array DictEntry} {ep : Nat} (ho : h.get? d = some o) (hd : o.data = .dict es ep) (hs : Heap.SameBut d h h') : ∀ {vs : List (Value × Value)} {ps : Ents}, CarN h vs ps → CarN h' vs ps
  | [], [], _ => trivial
  | (_, _) :: _, _ :: _, c => ⟨⟨c.1.1, c.1.2.1, c.1.2.2.keep ho hd hs⟩, CarN.keep ho hd hs c.2⟩
  | [], _ :: _, c => c.elim
  | (_, _) :: _, [], c => c.elim
theorem storeAll_N {d : Addr} (hu : A.units + 8 < cLine) : ∀ (vs : List (Value × Value)) (ps xs : Ents) (s : Shared) (Q : PUnit → Shared → Prop), CarN s.heap vs ps → DictN w s.heap d xs → xs.length + ps.length ≤ sizeLine →
    (∀ h' tk, DictN w h' d (storedAllN xs ps) → Heap.SameBut d s.heap h' → Q PUnit.unit { s with heap := h', toks := tk }) →
    wpAny (model prog w) A (forIn vs PUnit.unit fun (x : Value × Value) (_ : PUnit) => (do dictSet d x.1 x.2; pure (ForInStep.yield PUnit.unit) : Sem (ForInStep PUnit))) Q E s
  | [], [], xs, s, Q, _, hm, _, hQ => by
    rw [List.forIn_nil]
    exact wpAny_pure (hQ s.heap s.toks hm (Heap.SameBut.refl _ _))
  | (a, b) :: vs, p :: ps, xs, s, Q, c, hm, hz, hQ => by
    obtain ⟨⟨e1, e2, hk⟩, c⟩ := c
    simp only [List.length_cons] at hz
    rw [List.forIn_cons]
    obtain ⟨o, es, ep, ho, _, hdd, _⟩ := id hm
    refine wpAny_bind (wpAny_bind (set_N hu hk hm (by omega) fun h1 tk hm1 hs1 => wpAny_pure ?_))
    have hl := storedN_length xs p.1 a b
    refine storeAll_N hu vs ps (storedN xs p.1 a b) _ Q (c.keep ho hdd hs1) hm1 (by omega) fun h' tk' hm' hs' => hQ h' tk' ?_ (hs1.trans hs')
    rw [storedAllN_cons, e1, e2]
    exact hm'
  | [], _ :: _, _, _, _, c, _, _, _ => c.elim
  | (_, _) :: _, [], _, _, _, c, _, _, _ => c.elim
theorem subDict_N {pairs : List (Sem Value × Sem Value)} {Q : Addr → Shared → Prop} (hu : A.units + 8 < cLine) (hlen : pairs.length ≤ 15)
    (h : wpAny (model prog w) A (evalPairs pairs) (fun vs s₁ => ∃ ps, CarN s₁.heap vs ps ∧ DictN w s₁.heap s.heap.objs.size [] ∧
      ∀ h' tk, DictN w h' s.heap.objs.size (storedAllN [] ps) → Heap.SameBut s.heap.objs.size s₁.heap h' → Q s.heap.objs.size { s₁ with heap := h', toks := tk }) E
      { s with heap := s.heap.push { cls := .type "dict", data := .dict #[] } }) :
    wpAny (model prog w) A (subDict pairs) Q E s := by
  unfold subDict
  refine wpAny_bind (wpAny_alloc (wpAny_bind (wpAny_holding ?_)))
  rw [if_pos hlen]
  refine wpAny_bind (wpAny_mono (wpAny_evalPairs_len h) (fun vs s₁ h₁ => ?_) fun _ _ e => e)
  obtain ⟨hvl, ps, hc, hm, hQ⟩ := h₁
  have hz : ([] : Ents).length + ps.length ≤ sizeLine := by
    rw [hc.len, hvl, sizeLine_eq]
    simp only [List.length_nil]
    omega
  exact wpAny_holding (wpAny_bind (storeAll_N hu vs ps [] s₁ _ hc hm hz fun h' tk hm' hs' => wpAny_pure (wpAny_pure (hQ h' tk hm' hs'))))
/-- {**a, k: v} -/
theorem star_N {m1 kk m2 : Sem Value} {Q : Value → Shared → Prop}
   (h : wpAny (model prog w) A m1 (fun m s1 => ∀ E1, wpAny (model prog w) A (mergeMapping s.heap.objs.size m false) (fun _ s2 => wpAny (model prog w) A (subDict [(kk, m2)]) (fun sub s3 => ∀ E2, wpAny (model prog w) A (mergeMapping s.heap.objs.size (.ref sub) false) (fun _ s4 => Q (.ref s.heap.objs.size) s4) E2 s3) E s2) E1 s1) E { s with heap := s.heap.push { cls := .type "dict", data := .dict #[] } }) :
    wpAny (model prog w) A (dictDisplay [(none, m1), (some kk, m2)]) Q E s := by
  unfold dictDisplay
  simp only [List.forIn_cons, List.forIn_nil]
  refine wpAny_bind (wpAny_bind (wpAny_bind ?_))
  simp only [List.isEmpty_nil, if_true]
  refine wpAny_pure ?_
  dsimp only
  refine wpAny_bind (wpAny_alloc ?_)
  refine wpAny_bind (wpAny_holding (wpAny_mono h (fun m s1 h1 => ?_) fun _ _ e => e))
  refine wpAny_bind (wpAny_onRaise (wpAny_tryCatch (wpAny_onRaise (wpAny_holding (wpAny_mono (h1 _) (fun _ s2 h2 => ?_) fun _ _ e => e)))))
  refine wpAny_pure ?_
  dsimp only
  refine wpAny_bind ?_
  rw [if_neg (by simp)]
  refine wpAny_pure ?_
  dsimp only
  refine wpAny_pure ?_
  dsimp only
  refine wpAny_bind ?_
  rw [if_neg (by simp)]
  refine wpAny_bind (wpAny_holding (wpAny_mono h2 (fun sub s3 h3 => ?_) fun _ _ e => e))
  refine wpAny_bind (wpAny_onRaise (wpAny_holding (wpAny_mono (h3 _) (fun _ s4 h4 => ?_) fun _ _ e => e)))
  exact wpAny_pure (wpAny_pure h4)
/-- {**a, **b} -/
theorem star2_N {m1 m2 : Sem Value} {Q : Value → Shared → Prop}
   (h : wpAny (model prog w) A m1 (fun m s1 => ∀ E1, wpAny (model prog w) A (mergeMapping s.heap.objs.size m false) (fun _ s2 => wpAny (model prog w) A m2 (fun m' s3 => ∀ E2, wpAny (model prog w) A (mergeMapping s.heap.objs.size m' false) (fun _ s4 => Q (.ref s.heap.objs.size) s4) E2 s3) E s2) E1 s1) E { s with heap := s.heap.push { cls := .type "dict", data := .dict #[] } }) :
    wpAny (model prog w) A (dictDisplay [(none, m1), (none, m2)]) Q E s := by
  unfold dictDisplay
  simp only [List.forIn_cons, List.forIn_nil]
  refine wpAny_bind (wpAny_bind (wpAny_bind ?_))
  simp only [List.isEmpty_nil, if_true]
  refine wpAny_pure ?_
  dsimp only
  refine wpAny_bind (wpAny_alloc ?_)
  refine wpAny_bind (wpAny_holding (wpAny_mono h (fun m s1 h1 => ?_) fun _ _ e => e))
  refine wpAny_bind (wpAny_onRaise (wpAny_tryCatch (wpAny_onRaise (wpAny_holding (wpAny_mono (h1 _) (fun _ s2 h2 => ?_) fun _ _ e => e)))))
  refine wpAny_pure ?_
  dsimp only
  refine wpAny_bind (wpAny_bind ?_)
  simp only [List.isEmpty_nil, if_true]
  refine wpAny_pure ?_
  dsimp only
  refine wpAny_bind (wpAny_pure ?_)
  refine wpAny_bind (wpAny_holding (wpAny_mono h2 (fun m' s3 h3 => ?_) fun _ _ e => e))
  refine wpAny_bind (wpAny_onRaise (wpAny_tryCatch (wpAny_onRaise (wpAny_holding (wpAny_mono (h3 _) (fun _ s4 h4 => ?_) fun _ _ e => e)))))
  refine wpAny_pure ?_
  dsimp only
  refine wpAny_pure ?_
  dsimp only
  refine wpAny_bind ?_
  simp only [List.isEmpty_nil, if_true]
  exact wpAny_pure (wpAny_pure h4)
end
section
variable {prog : Program} {w : World} {A : Around} {E : Value → Shared → Prop} {s : Shared} {d : Addr} {v : Value} {k : NestedKey} {xs : Ents}
theorem contains_N {Q : Bool → Shared → Prop} (hu : A.units + 1 + 8 < cLine) (hk : NIs s.heap k v) (hd : (d == sysModules) = false) (hm : DictN w s.heap d xs)
    (h : Q (atN xs k).isSome { s with toks := s.toks + k.draws }) : wpAny (model prog w) A (contains (.ref d) v) Q E s := by
  refine wpAny_contains_slot hm.typeIs F.slot_dict_contains ?_
  refine call_meetsIn F.slot_dict_contains hm.typeIs F.entry_dict_contains (F.args_dict_contains_2 _ _) (S := fun A' R s' => A' = A ∧ s' = s ∧ R (.ok (.ret (.bool (atN xs k).isSome))) { s with toks := s.toks + k.draws }) (fun A' R s' hS => ?_) ⟨rfl, rfl, wpAny_truthy_bool h⟩
  obtain ⟨rfl, rfl, hq⟩ := hS
  show wpAny _ _ (dictGet d v >>= _) _ _ _
  refine wpAny_bind (get_N hu hk hm ?_)
  cases hf : atN xs k with
  | some p =>
    rw [hf] at hq
    show wpAny _ _ (ret (.bool true)) _ _ _
    exact wpAny_pure hq
  | none =>
    rw [hf] at hq
    show wpAny _ _ (Builtin.Dict.pendingKey? d v >>= _) _ _ _
    exact wpAny_bind (wpAny_pendingKey_other hd (wpAny_pure hq))
theorem in_N {Q : Value → Shared → Prop} (hu : A.units + 1 + 8 < cLine) (hk : NIs s.heap k v) (hd : (d == sysModules) = false) (hm : DictN w s.heap d xs)
    (h : Q (.bool (atN xs k).isSome) { s with toks := s.toks + k.draws }) : wpAny (model prog w) A (compareOp .In v (.ref d)) Q E s := by
  show wpAny _ _ (do return .bool (← contains (.ref d) v)) Q E s
  exact wpAny_bind (contains_N hu hk hd hm (wpAny_pure h))
theorem notIn_N {Q : Value → Shared → Prop} (hu : A.units + 1 + 8 < cLine) (hk : NIs s.heap k v) (hd : (d == sysModules) = false) (hm : DictN w s.heap d xs)
    (h : Q (.bool (!(atN xs k).isSome)) { s with toks := s.toks + k.draws }) : wpAny (model prog w) A (compareOp .NotIn v (.ref d)) Q E s := by
  show wpAny _ _ (do return .bool (!(← contains (.ref d) v))) Q E s
  exact wpAny_bind (contains_N hu hk hd hm (wpAny_pure h))
theorem getItem_N {p : Value × Value} {Q : Value → Shared → Prop} (hu : A.units + 1 + 8 < cLine) (hk : NIs s.heap k v) (hm : DictN w s.heap d xs) (hp : atN xs k = some p)
    (h : Q p.2 { s with toks := s.toks + k.draws }) : wpAny (model prog w) A (getItem (.ref d) v) Q E s := by
  unfold getItem
  refine wpAny_holding (wpAny_bind (wpAny_sequenceKey hm.typeIs (by decide) ?_))
  refine wpAny_bind (wpAny_callSpecial?_slot (name := Str.ofString "__getitem__") hm.typeIs slot_dict_getitem
    (wpAny_call_entry slot_dict_getitem hm.typeIs entry_dict_getitem ?_ (args_dict_getitem _ _)))
  show wpAny _ _ (dictGet d v >>= _) _ _ s
  refine wpAny_bind (get_N hu hk hm ?_)
  rw [hp]
  exact wpAny_pure ⟨p.2, rfl, wpAny_pure h⟩
theorem setItem_N {u : Value} {Q : Unit → Shared → Prop} (hu : A.units + 1 + 8 < cLine) (hk : NIs s.heap k v) (hm : DictN w s.heap d xs) (hsz : xs.length ≤ sizeLine)
    (hQ : ∀ h' tk, DictN w h' d (storedN xs k v u) → Heap.SameBut d s.heap h' → Q () { s with heap := h', toks := tk }) :
    wpAny (model prog w) A (setItem (.ref d) v u) Q E s := by
  unfold setItem
  refine wpAny_holding (wpAny_bind (wpAny_sequenceKey hm.typeIs (by decide) ?_))
  refine wpAny_bind (wpAny_callSpecial?_slot (name := Str.ofString "__setitem__") hm.typeIs slot_dict_setitem
    (wpAny_call_entry slot_dict_setitem hm.typeIs entry_dict_setitem ?_ (args_dict_setitem _ _ _)))
  show wpAny _ _ (Builtin.Dict.notOrdered "__setitem__" ⟨[.ref d, v, u], []⟩ >>= _) _ _ s
  refine wpAny_bind (wpAny_notOrdered_dict hm.typeIs ?_)
  show wpAny _ _ (dictSet d v u >>= _) _ _ s
  exact wpAny_bind (set_N hu hk hm hsz fun h' tk hm' hs' => wpAny_pure ⟨.none, rfl, wpAny_pure (hQ h' tk hm' hs')⟩)
/-- what d.get(k, x) gives -/
theorem dget_N {dflt : Value} {Q : Value → Shared → Prop} (hu : A.units + 1 + 8 < cLine) (hk : NIs s.heap k v) (hd : (d == sysModules) = false) (hm : DictN w s.heap d xs)
    (h : Q (((atN xs k).map (·.2)).getD dflt) { s with toks := s.toks + k.draws }) : wpAny (model prog w) A (call (.builtin "dict.get") [.ref d, v, dflt]) Q E s := by
  refine call_meetsIn F.slot_dict_get hm.typeIs F.entry_dict_get (F.args_dict_get_3 _ _ _) (S := fun A' R s' => A' = A ∧ s' = s ∧ R (.ok (.ret (((atN xs k).map (·.2)).getD dflt))) { s with toks := s.toks + k.draws }) (fun A' R s' hS => ?_) ⟨rfl, rfl, h⟩
  obtain ⟨rfl, rfl, hq⟩ := hS
  show wpAny _ _ (dictGet d v >>= _) _ _ _
  refine wpAny_bind (get_N hu hk hm ?_)
  cases hf : (atN xs k).map (·.2) with
  | some u =>
    rw [hf] at hq
    exact wpAny_pure hq
  | none =>
    rw [hf] at hq
    show wpAny _ _ (Builtin.Dict.missed d v >>= _) _ _ _
    exact wpAny_bind (wpAny_missed_other hd (wpAny_pure hq))
theorem dget1_N {Q : Value → Shared → Prop} (hu : A.units + 1 + 8 < cLine) (hk : NIs s.heap k v) (hd : (d == sysModules) = false) (hm : DictN w s.heap d xs)
    (h : Q (((atN xs k).map (·.2)).getD .none) { s with toks := s.toks + k.draws }) : wpAny (model prog w) A (call (.builtin "dict.get") [.ref d, v]) Q E s := by
  refine call_meetsIn F.slot_dict_get hm.typeIs F.entry_dict_get (F.args_dict_get_2 _ _) (S := fun A' R s' => A' = A ∧ s' = s ∧ R (.ok (.ret (((atN xs k).map (·.2)).getD .none))) { s with toks := s.toks + k.draws }) (fun A' R s' hS => ?_) ⟨rfl, rfl, h⟩
  obtain ⟨rfl, rfl, hq⟩ := hS
  show wpAny _ _ (dictGet d v >>= _) _ _ _
  refine wpAny_bind (get_N hu hk hm ?_)
  cases hf : (atN xs k).map (·.2) with
  | some u =>
    rw [hf] at hq
    exact wpAny_pure hq
  | none =>
    rw [hf] at hq
    show wpAny _ _ (Builtin.Dict.missed d v >>= _) _ _ _
    exact wpAny_bind (wpAny_missed_other hd (wpAny_pure hq))
end
/-! ### dict(x) of pairs -/
section
variable {prog : Program} {w : World} {A : Around} {E : Value → Shared → Prop} {s : Shared} {T : String} {a : Addr} {fp wr : List Addr} {n : Nat} {Rel : Nat → Value → Value → Prop} {OK : Heap → Prop}
theorem storedAllN_keys {P : NestedKey → Value → Prop} : ∀ {ps xs : Ents}, (∀ x ∈ xs, P x.1 x.2.1) → (∀ x ∈ ps, P x.1 x.2.1) → ∀ x ∈ storedAllN xs ps, P x.1 x.2.1
  | [], _, h, _ => h
  | p :: ps, xs, h, hp => storedAllN_keys (ps := ps) (storedN_mem h (hp p List.mem_cons_self)) fun x hx => hp x (List.mem_cons_of_mem _ hx)
theorem DictN.there {h : Heap} {d : Addr} {xs : Ents} (x : DictN w h d xs) : d < h.objs.size := let ⟨_, _, _, ho, _⟩ := x; Heap.lt_size ho
theorem DictN.goes {h h' : Heap} {d : Addr} {xs : Ents} (x : DictN w h d xs) (e : ∀ o, h.get? d = some o → h'.get? d = some o) (his : ∀ y ∈ xs, NIs h' y.1 y.2.1) : DictN w h' d xs :=
  let ⟨o, es, ep, ho, hc, hd, he, _, hn⟩ := x; ⟨o, es, ep, e _ ho, hc, hd, he, his, hn⟩
theorem call_dict_N {ps : Ents} {Q : Value → Shared → Prop} (P : PairArg prog w T a fp wr n Rel OK) (hh : A.handled = none) (hu : A.units + 2 + 8 < cLine) (ok : OK s.heap)
    (hc : ps.length = n ∧ ∀ i key v, Rel i key v → ∃ k, ps[i]? = some (k, key, v))
    (hst : ∀ h', (∀ b o, b ≠ s.heap.objs.size → b ∉ wr → s.heap.get? b = some o → h'.get? b = some o) → ∀ x ∈ ps, NIs h' x.1 x.2.1) (hsz : n ≤ sizeLine)
    (h : ∀ h' tk, DictN w h' s.heap.objs.size (storedAllN [] ps) → (∀ b o, b ∉ wr → s.heap.get? b = some o → h'.get? b = some o) → Q (.ref s.heap.objs.size) { s with heap := h', toks := tk }) :
    wpAny (model prog w) A (call (.type "dict") [.ref a]) Q E s := by
  refine call_dict_arg P ok fun s₁ hs₁ hdf ok₁ => ?_
  subst hs₁
  have hst' : ∀ h', (∀ b o, b ≠ s.heap.objs.size → b ∉ wr → (s.heap.push { cls := .type "dict", data := .dict #[] }).get? b = some o → h'.get? b = some o) → ∀ x ∈ ps, NIs h' x.1 x.2.1 := fun h' hk => hst h' fun b o h1 h2 e => hk b o h1 h2 (Heap.get?_push_of_some _ e)
  refine updateFrom_arg (A := A.in1) (d := s.heap.objs.size) (Tab := fun i h => DictN w h s.heap.objs.size (storedAllN [] (ps.take i)) ∧ ∀ b o, b ≠ s.heap.objs.size → b ∉ wr → (s.heap.push { cls := .type "dict", data := .dict #[] }).get? b = some o → h.get? b = some o) P .none hh ok₁ hdf ⟨DictN.new w s.heap, fun _ _ _ _ e => e⟩ (fun _ _ tb => tb.1.there) ?_ ?_ ?_
  · intro i h h' wr' hd hw tb hk
    have hk' : ∀ b o, b ≠ s.heap.objs.size → b ∉ wr → (s.heap.push { cls := .type "dict", data := .dict #[] }).get? b = some o → h'.get? b = some o := fun b o h1 h2 e => hk b o (fun hm' => by
      rcases hw b hm' with q | q
      · exact h2 q
      · rw [q] at e; cases e) (tb.2 b o h1 h2 e)
    exact ⟨tb.1.goes (fun o e => hk _ o hd e) (storedAllN_keys (P := fun k b => NIs h' k b) (fun x hx => by cases hx) fun x hx => hst' h' hk' x (List.mem_of_mem_take hx)), hk'⟩
  · intro i key v s' Q' E' hi hrel tb _ hQ
    obtain ⟨k, hk⟩ := hc.2 i key v hrel
    refine set_N (by show A.units + 1 + 1 + 8 < cLine; omega) (hst' _ tb.2 _ (List.mem_of_getElem? hk)) tb.1 (by have := storedAllN_length (ps.take i) []; rw [List.length_take] at this; simp at this; omega) fun h' tk hm' hs => ?_
    exact hQ h' _ ⟨by rw [storedAllN_take hk]; exact hm', fun c o h1 h2 e => hs.extBut c o h1 (tb.2 c o h1 h2 e)⟩ hs
  · intro h' tk tb hk
    have e : ps.take n = ps := List.take_of_length_le (Nat.le_of_eq hc.1)
    rw [e] at tb
    exact ⟨rfl, h h' tk tb.1 fun b o hw e => hk b o (Nat.ne_of_lt (Heap.lt_size e)) hw (Heap.get?_push_of_some _ e)⟩
end
end PF
end

/-! ## PfY3 -/
section
/-! PfY3: dicts by data: what stands at an address; in, not in, d[k]. -/
set_option linter.all false
set_option autoImplicit false
set_option maxRecDepth 100000
set_option maxHeartbeats 2000000
namespace PF
open PySem L2 PyProof.Rows
open Sem (wp)
/-- the value is the key -/
def KeyAt (H : Hp) (k : NestedKey) (v : V) : Prop := ∀ P w h, HOk P w H h → ∀ u, RelV v u → NestedIs h k u
def KeysAt (H : Hp) (ks : List NestedKey) (vs : List V) : Prop := ∀ P w h, HOk P w H h → ∀ us, Vals vs us → NestedAll h ks us
section
variable {K : PySem.W.Frag} {G : Gh} {H : Hp}
mutual
theorem Den.keyN : ∀ (d : D) (v : V) (k : NestedKey), Den K G H v d → PF.keyN d = some k → KeyAt H k v
  | .non, v, k, h, e => fun P w hp ok u r => by
    cases show v = .non from h
    cases show u = Value.none from r
    simp only [PF.keyN, Option.some.injEq] at e
    subst e
    exact .none
  | .int i, v, k, h, e => fun P w hp ok u r => by
    cases show v = .int i from h
    obtain ⟨t, rfl⟩ := (show ∃ t, u = Value.int i t from r)
    simp only [PF.keyN, Option.some.injEq] at e
    subst e
    exact .int _ _
  | .tup ds, v, k, h, e => fun P w hp ok u r => by
    simp only [PF.keyN, Option.map_eq_some_iff] at e
    obtain ⟨ks, e, rfl⟩ := e
    obtain ⟨a, vs, o, rfl, _, h1, _, h2⟩ := h
    cases show u = Value.ref a from r
    obtain ⟨_, _, its, rv, o', e1, e2, n, e3⟩ := ok a _ h1
    exact .tup e1 e2 e3 (by simpa using DenL.keyNs ds vs ks h2 e P w hp ok its rv)
  | .bl _, _, _, _, e => by simp [PF.keyN] at e
  | .str _, _, _, _, e => by simp [PF.keyN] at e
  | .lst _, _, _, _, e => by simp [PF.keyN] at e
  | .dct _, _, _, _, e => by simp [PF.keyN] at e
  | .set _, _, _, _, e => by simp [PF.keyN] at e
  | .cup, _, _, _, e => by simp [PF.keyN] at e
  | .scr _, _, _, _, e => by simp [PF.keyN] at e
  | .exc _, _, _, _, e => by simp [PF.keyN] at e
theorem DenL.keyNs : ∀ (ds : List D) (vs : List V) (ks : List NestedKey), DenL K G H vs ds → PF.keyNs ds = some ks → KeysAt H ks vs
  | [], [], ks, _, e => fun P w hp ok us r => by
    simp only [PF.keyNs, Option.some.injEq] at e
    subst e
    cases r
    exact .nil
  | d :: ds, v :: vs, ks, h, e => fun P w hp ok us r => by
    simp only [PF.keyNs] at e
    split at e
    · rename_i k ks' e1 e2
      cases e
      cases r with
      | cons r1 r2 => exact .cons (Den.keyN d v k h.1 e1 P w hp ok _ r1) (DenL.keyNs ds vs ks' h.2 e2 P w hp ok _ r2)
    · cases e
  | [], _ :: _, _, h, _ => h.elim
  | _ :: _, [], _, h, _ => h.elim
end
mutual
theorem hash_of (w : World) : ∀ (d : D) (k : NestedKey), PF.keyN d = some k → hashN k = k.hash w
  | .non, k, e => by simp only [PF.keyN, Option.some.injEq] at e; subst e; rfl
  | .int i, k, e => by simp only [PF.keyN, Option.some.injEq] at e; subst e; rfl
  | .tup ds, k, e => by
    simp only [PF.keyN, Option.map_eq_some_iff] at e
    obtain ⟨ks, e, rfl⟩ := e
    simp only [hashN, NestedKey.hash, hashes_of w ds ks e]
  | .bl _, _, e => by simp [PF.keyN] at e
  | .str _, _, e => by simp [PF.keyN] at e
  | .lst _, _, e => by simp [PF.keyN] at e
  | .dct _, _, e => by simp [PF.keyN] at e
  | .set _, _, e => by simp [PF.keyN] at e
  | .cup, _, e => by simp [PF.keyN] at e
  | .scr _, _, e => by simp [PF.keyN] at e
  | .exc _, _, e => by simp [PF.keyN] at e
theorem hashes_of (w : World) : ∀ (ds : List D) (ks : List NestedKey), PF.keyNs ds = some ks → hashNs ks = NestedKey.hashes w ks
  | [], ks, e => by simp only [PF.keyNs, Option.some.injEq] at e; subst e; rfl
  | d :: ds, ks, e => by
    simp only [PF.keyNs] at e
    split at e
    · rename_i k ks' e1 e2
      cases e
      simp only [hashNs, NestedKey.hashes, hash_of w d k e1, hashes_of w ds ks' e2]
    · cases e
end
theorem keyD_N {d : D} {k : NestedKey} (e : keyD d = some k) : PF.keyN d = some k ∧ k.depth ≤ 8 := by
  unfold keyD at e
  split at e
  · split at e
    · cases e
      exact ⟨by assumption, by assumption⟩
    · cases e
  · cases e
theorem keyN_nt {d : D} {k : NestedKey} (e : PF.keyN d = some k) : notText k := by
  cases d <;> simp only [PF.keyN, Option.some.injEq, Option.map_eq_some_iff, reduceCtorEq] at e
  · subst e; exact True.intro
  · subst e; exact True.intro
  · obtain ⟨ks, _, rfl⟩ := e; exact True.intro
/-- the value is the key k of a dict -/
def IsKey (H : Hp) (k : NestedKey) (v : V) : Prop := (k.depth ≤ 8 ∧ notText k) ∧ KeyAt H k v
theorem IsKey.is {k : NestedKey} {v : V} {u : Value} (x : IsKey H k v) (r : RelV v u) {P : Program} {w : World} {h : Heap} (ok : HOk P w H h) : NIs h k u := ⟨x.2 P w h ok _ r, x.1.1, x.1.2⟩
theorem Den.isKey {d : D} {v : V} {k : NestedKey} (h : Den K G H v d) (e : keyD d = some k) : IsKey H k v := ⟨⟨(keyD_N e).2, keyN_nt (keyD_N e).1⟩, Den.keyN d v k h (keyD_N e).1⟩
/-- the entries, with what they stand for -/
def RX (K : PySem.W.Frag) (G : Gh) (H : Hp) : Ents → List (D × D) → Prop
  | [], [] => True
  | x :: xs, (a, b) :: kvs => (keyD a = some x.1 ∧ (∃ kv, RelV kv x.2.1 ∧ Den K G H kv a) ∧ ∃ vv, RelV vv x.2.2 ∧ Den K G H vv b) ∧ RX K G H xs kvs
  | _, _ => False
theorem RX.of (w : World) : ∀ {es : List DictEntry} {kvs : List (D × D)}, DenE K G H es kvs → ∃ xs, es = xs.map (entN w) ∧ RX K G H xs kvs
  | [], [], _ => ⟨[], rfl, True.intro⟩
  | e :: es, (a, b) :: kvs, h => by
    obtain ⟨⟨k, kv, vv, h1, h2, h3, h4, h5, h6⟩, h7⟩ := h
    obtain ⟨xs, e1, e2⟩ := RX.of w h7
    refine ⟨(k, e.key, e.val) :: xs, ?_, ⟨h1, ⟨kv, h3, h4⟩, vv, h5, h6⟩, e2⟩
    rw [List.map_cons, ← e1]
    congr 1
    show e = ⟨k.hash w, e.key, e.val⟩
    rw [← hash_of w a k (keyD_N h1).1, ← h2]
  | [], _ :: _, h => h.elim
  | _ :: _, [], h => h.elim
theorem RX.den (w : World) : ∀ {xs : Ents} {kvs : List (D × D)}, RX K G H xs kvs → DenE K G H (xs.map (entN w)) kvs
  | [], [], _ => True.intro
  | x :: xs, (a, b) :: kvs, h => by
    obtain ⟨⟨h1, ⟨kv, h2, h2'⟩, vv, h3, h4⟩, h5⟩ := h
    exact ⟨⟨x.1, kv, vv, h1, (hash_of w a x.1 (keyD_N h1).1).symm, h2, h2', h3, h4⟩, RX.den w h5⟩
  | [], _ :: _, h => h.elim
  | _ :: _, [], h => h.elim
theorem RX.stay {G' : Gh} {H' : Hp} (s : Stb G H G' H') : ∀ {xs : Ents} {kvs : List (D × D)}, RX K G H xs kvs → RX K G' H' xs kvs
  | [], [], _ => True.intro
  | x :: xs, (a, b) :: kvs, h => by
    obtain ⟨⟨h1, ⟨kv, h2, h2'⟩, vv, h3, h4⟩, h5⟩ := h
    exact ⟨⟨h1, ⟨kv, h2, Den.stay s a kv h2'⟩, vv, h3, Den.stay s b vv h4⟩, RX.stay s h5⟩
  | [], _ :: _, h => h.elim
  | _ :: _, [], h => h.elim
theorem RX.length : ∀ {xs : Ents} {kvs : List (D × D)}, RX K G H xs kvs → xs.length = kvs.length
  | [], [], _ => rfl
  | x :: xs, (a, b) :: kvs, h => by simp [RX.length h.2]
  | [], _ :: _, h => h.elim
  | _ :: _, [], h => h.elim
theorem RX.keys : ∀ {xs : Ents} {kvs : List (D × D)}, RX K G H xs kvs → (kvs.map fun p => keyD p.1) = xs.map fun x => some x.1
  | [], [], _ => rfl
  | x :: xs, (a, b) :: kvs, h => by simp [RX.keys h.2, h.1.1]
  | [], _ :: _, h => h.elim
  | _ :: _, [], h => h.elim
theorem RX.isKeys {P : Program} {w : World} {hp : Heap} (ok : HOk P w H hp) : ∀ {xs : Ents} {kvs : List (D × D)}, RX K G H xs kvs → ∀ x ∈ xs, NIs hp x.1 x.2.1
  | [], [], _, x, hx => by cases hx
  | x :: xs, (a, b) :: kvs, h, y, hy => by
    rcases List.mem_cons.mp hy with rfl | hy
    · obtain ⟨h1, ⟨kv, h2, h3⟩, _⟩ := h.1
      exact (Den.isKey h3 h1).is h2 ok
    · exact RX.isKeys ok h.2 y hy
  | [], _ :: _, h, _, _ => h.elim
  | _ :: _, [], h, _, _ => h.elim
theorem RX.nodup {xs : Ents} {kvs : List (D × D)} (r : RX K G H xs kvs) (n : (kvs.map fun p => keyD p.1).Nodup) : (xs.map (·.1)).Nodup := by
  rw [r.keys] at n
  have : (xs.map fun x => some x.1) = (xs.map (·.1)).map some := by simp [Function.comp_def]
  rw [this] at n
  exact (List.pairwise_map.mp n).imp fun h e => h (congrArg some e)
theorem RX.knodup {xs : Ents} {kvs : List (D × D)} (r : RX K G H xs kvs) (n : (xs.map (·.1)).Nodup) : (kvs.map fun p => keyD p.1).Nodup := by
  rw [r.keys]
  have e : (xs.map fun x => some x.1) = (xs.map (·.1)).map some := by simp [Function.comp_def]
  rw [e]
  exact List.pairwise_map.mpr (n.imp fun h e => h (Option.some.inj e))
theorem RX.at (k : NestedKey) : ∀ {xs : Ents} {kvs : List (D × D)}, RX K G H xs kvs → (atN xs k).isSome = (dAt kvs k).isSome ∧ (∀ d, dAt kvs k = some d → ∃ p vv, atN xs k = some p ∧ RelV vv p.2 ∧ Den K G H vv d)
  | [], [], _ => ⟨rfl, fun d e => by cases e⟩
  | x :: xs, (a, b) :: kvs, h => by
    obtain ⟨⟨h1, h2, vv, h3, h4⟩, h5⟩ := h
    have ih := RX.at k h5
    by_cases e : x.1 = k
    · have e1 : atN (x :: xs) k = some x.2 := by simp [atN, List.find?_cons, e]
      have e2 : dAt ((a, b) :: kvs) k = some b := by simp [dAt, h1, e]
      rw [e1, e2]
      refine ⟨rfl, fun d q => ?_⟩
      cases q
      exact ⟨x.2, vv, rfl, h3, h4⟩
    · have e1 : atN (x :: xs) k = atN xs k := by simp [atN, List.find?_cons, e]
      have e2 : dAt ((a, b) :: kvs) k = dAt kvs k := by simp [dAt, h1, e]
      rw [e1, e2]
      exact ih
  | [], _ :: _, h => h.elim
  | _ :: _, [], h => h.elim
theorem RX.none {xs : Ents} {kvs : List (D × D)} {k : NestedKey} (h : RX K G H xs kvs) (e : dAt kvs k = none) : atN xs k = none := by
  have := (h.at k).1
  rw [e] at this
  cases q : atN xs k with
  | none => rfl
  | some p => rw [q] at this; cases this
theorem RX.snoc : ∀ {xs : Ents} {kvs : List (D × D)}, RX K G H xs kvs → ∀ {x : NestedKey × Value × Value} {a b : D} {kv vv : V}, keyD a = some x.1 → RelV kv x.2.1 → Den K G H kv a → RelV vv x.2.2 → Den K G H vv b → RX K G H (xs ++ [x]) (kvs ++ [(a, b)])
  | [], [], _, x, a, b, kv, vv, h1, h2, h2', h3, h4 => ⟨⟨h1, ⟨kv, h2, h2'⟩, vv, h3, h4⟩, True.intro⟩
  | y :: xs, (c, d) :: kvs, h, x, a, b, kv, vv, h1, h2, h2', h3, h4 => ⟨h.1, RX.snoc h.2 h1 h2 h2' h3 h4⟩
  | [], _ :: _, h, _, _, _, _, _, _, _, _, _, _ => h.elim
  | _ :: _, [], h, _, _, _, _, _, _, _, _, _, _ => h.elim
theorem RX.repl (k : NestedKey) {u : Value} {vv : V} {d : D} (h3 : RelV vv u) (h4 : Den K G H vv d) : ∀ {xs : Ents} {kvs : List (D × D)}, RX K G H xs kvs → RX K G H (xs.map (putN k u)) (kvs.map fun p => if keyD p.1 = some k then (p.1, d) else p)
  | [], [], _ => True.intro
  | x :: xs, (a, b) :: kvs, h => by
    by_cases e : x.1 = k
    · have e1 : putN k u x = (x.1, x.2.1, u) := by unfold putN; rw [if_pos e]
      have e2 : (if keyD (a, b).1 = some k then ((a, b).1, d) else (a, b)) = (a, d) := if_pos (by rw [← e]; exact h.1.1)
      rw [List.map_cons, List.map_cons, e1, e2]
      exact ⟨⟨h.1.1, h.1.2.1, vv, h3, h4⟩, RX.repl k h3 h4 h.2⟩
    · have e1 : putN k u x = x := by unfold putN; rw [if_neg e]
      have e2 : (if keyD (a, b).1 = some k then ((a, b).1, d) else (a, b)) = (a, b) := if_neg (by rw [show keyD (a, b).1 = some x.1 from h.1.1]; simpa using e)
      rw [List.map_cons, List.map_cons, e1, e2]
      exact ⟨h.1, RX.repl k h3 h4 h.2⟩
  | [], _ :: _, h => h.elim
  | _ :: _, [], h => h.elim
theorem RX.put {xs : Ents} {kvs : List (D × D)} (r : RX K G H xs kvs) {k : NestedKey} {b u : Value} {kv vv : V} {a d : D} (h1 : keyD a = some k) (h2 : RelV kv b) (h2' : Den K G H kv a) (h3 : RelV vv u) (h4 : Den K G H vv d) :
    RX K G H (storedN xs k b u) (dPut kvs k a d) := by
  unfold storedN dPut
  rw [(r.at k).1]
  split
  · exact r.repl k h3 h4
  · exact r.snoc (x := (k, b, u)) h1 h2 h2' h3 h4
/-- **, by data -/
theorem RX.all : ∀ {more : Ents} {mkvs : List (D × D)} {xs : Ents} {kvs out : List (D × D)}, RX K G H xs kvs → RX K G H more mkvs → dAll kvs mkvs = some out → RX K G H (storedAllN xs more) out
  | [], [], xs, kvs, out, r, _, e => by
    simp only [dAll, Option.some.injEq] at e
    subst e
    exact r
  | x :: more, (a, b) :: mkvs, xs, kvs, out, r, m, e => by
    obtain ⟨⟨h1, ⟨kv, h2, h2'⟩, vv, h3, h4⟩, h5⟩ := m
    simp only [dAll, h1, Option.bind_some] at e
    rw [storedAllN_cons]
    exact RX.all (r.put h1 h2 h2' h3 h4) h5 e
  | [], _ :: _, _, _, _, _, h, _ => h.elim
  | _ :: _, [], _, _, _, _, h, _ => h.elim
theorem RX.apart (w : World) {xs : Ents} {kvs : List (D × D)} (r : RX K G H xs kvs) (h : dApart kvs = true) : Apart w xs := by
  have hh : ∀ {xs : Ents} {kvs : List (D × D)} (c : Int), RX K G H xs kvs → (xs.filter fun y => y.1.hash w == c).length = (kvs.filter fun q => hashD q.1 == some c).length := by
    intro xs
    induction xs with
    | nil =>
      intro kvs c r
      cases kvs with
      | nil => rfl
      | cons => exact r.elim
    | cons x xs ih =>
      intro kvs c r
      cases kvs with
      | nil => exact r.elim
      | cons p kvs =>
        obtain ⟨a, b⟩ := p
        have h1 := r.1.1
        have e : hashD a = some (x.1.hash w) := by
          unfold hashD
          rw [h1, Option.map_some, hash_of w a x.1 (keyD_N h1).1]
        have ih' := ih (kvs := kvs) c r.2
        simp only [List.filter_cons, e]
        by_cases q : x.1.hash w = c
        · simp [q, ih']
        · simp [q, ih']
  have key : ∀ {ys : Ents} {lvs : List (D × D)}, RX K G H ys lvs → (∀ p ∈ lvs, isTupK p.1 = true → (kvs.filter fun q => hashD q.1 == hashD p.1).length ≤ 1) → ∀ x ∈ ys, carriedByValue x.2.1 = true ∨ (xs.filter fun y => y.1.hash w == x.1.hash w).length ≤ 1 := by
    intro ys
    induction ys with
    | nil => intro lvs _ _ x hx; cases hx
    | cons y ys ih =>
      intro lvs ry hl x hx
      cases lvs with
      | nil => exact ry.elim
      | cons p lvs =>
        obtain ⟨a, b⟩ := p
        rcases List.mem_cons.mp hx with rfl | hx
        · obtain ⟨h1, ⟨kv, h2, h2'⟩, _⟩ := ry.1
          cases a with
          | tup ds =>
            right
            have := hl (.tup ds, b) List.mem_cons_self rfl
            rw [hh _ r]
            have e : hashD (.tup ds) = some (x.1.hash w) := by
              unfold hashD
              rw [h1, Option.map_some, hash_of w _ x.1 (keyD_N h1).1]
            rw [e] at this
            exact this
          | non =>
            left
            cases show kv = .non from h2'
            rw [show x.2.1 = Value.none from h2]; rfl
          | int i =>
            left
            cases show kv = .int i from h2'
            obtain ⟨t, e⟩ := (show ∃ t, x.2.1 = Value.int i t from h2)
            rw [e]; rfl
          | _ => simp [keyD, PF.keyN] at h1
        · exact ih ry.2 (fun p hp => hl p (List.mem_cons_of_mem _ hp)) x hx
  refine key r fun p hp ht => ?_
  unfold dApart at h
  have := List.all_eq_true.mp h p hp
  rw [ht] at this
  simpa using this
/-- a dict, as it stands -/
theorem DctAt.dict {a : Addr} {kvs : List (D × D)} (h : DctAt K G H a kvs) (P : Program) (w : World) : ∃ xs, RX K G H xs kvs ∧ (a == sysModules) = false ∧ (xs.map (·.1)).Nodup ∧ xs.length = kvs.length ∧ kvs.length ≤ 1000001 ∧ ∀ hp, HOk P w H hp → DictN w hp a xs := by
  obtain ⟨o, es, ep, h1, h2, h3, h4, h5, h6, h7⟩ := h
  obtain ⟨xs, e1, r⟩ := RX.of w h7
  refine ⟨xs, r, h4, r.nodup h5, r.length, h6, fun hp ok => ?_⟩
  have h8 : hp.get? a = some o := (ok a _ h1).1
  exact ⟨o, es, ep, h8, h2, h3, e1, r.isKeys ok, r.nodup h5⟩
end
section
variable {X : Cx}
def rInN (X : Cx) (neg : Bool) : R2 := fun v u H Q => ∃ (a : Addr) (k : NestedKey) (xs : Ents), u = .ref a ∧ (a == sysModules) = false ∧ IsKey H k v ∧ (∀ hp, HOk X.prog X.w H hp → DictN X.w hp a xs) ∧ Q (.bl (if neg then !(atN xs k).isSome else (atN xs k).isSome)) H
theorem op_inN (hu : X.A.units + 65 < cLine) : OpR X (compareOp .In) (rInN X false) := by
  intro pins s σ H x y v u Q I rx ry h
  obtain ⟨a, k, xs, rfl, hs, hk, hd, q⟩ := h
  cases ry
  exact in_N (Nat.lt_of_le_of_lt (by omega) hu) (hk.is rx I.hok) hs (hd _ I.hok) ⟨.bl _, H, I.tok _, rfl, q⟩
theorem op_notInN (hu : X.A.units + 65 < cLine) : OpR X (compareOp .NotIn) (rInN X true) := by
  intro pins s σ H x y v u Q I rx ry h
  obtain ⟨a, k, xs, rfl, hs, hk, hd, q⟩ := h
  cases ry
  exact notIn_N (Nat.lt_of_le_of_lt (by omega) hu) (hk.is rx I.hok) hs (hd _ I.hok) ⟨.bl _, H, I.tok _, rfl, q⟩
def rIxN (X : Cx) : R2 := fun v u H Q => ∃ (a : Addr) (k : NestedKey) (xs : Ents) (p : Value × Value) (vv : V), v = .ref a ∧ IsKey H k u ∧ (∀ hp, HOk X.prog X.w H hp → DictN X.w hp a xs) ∧ atN xs k = some p ∧ RelV vv p.2 ∧ Q vv H
theorem ix_N (hu : X.A.units + 65 < cLine) : IxR X (rIxN X) := by
  intro value slice pins s σ H x y v u Q I rx ry h hs
  obtain ⟨a, k, xs, p, vv, rfl, hk, hd, hp, rv, q⟩ := h
  cases rx
  exact tail_any (hd _ I.hok).typeIs PySem.F.slot_dict_getitem.lookup (getItem_N (Nat.lt_of_le_of_lt (by omega) hu) (hk.is ry I.hok) (hd _ I.hok) hp ⟨vv, H, I.tok _, rv, q⟩) hs
end
end PF
end

/-! ## PfY4 -/
section
/-! PfY4: dict displays: {}, {k: v}, {k: v, k2: v2}, {**d, k: v}, {**d, **e}. -/
set_option linter.all false
set_option autoImplicit false
set_option maxRecDepth 100000
set_option maxHeartbeats 2000000
namespace PF
open PySem L2 PyProof.Rows
open Sem (wp)
def emptyO : Obj := { cls := .type "dict", data := .dict #[] }
/-- the object at p is o -/
def dO (p : Addr) (o : Obj) : HO := .ext fun h => h.get? p = some o
theorem dO_ok {P : Program} {w : World} {H : Hp} {h : Heap} {p : Addr} {o : Obj} (e : h.get? p = some o) : ObjOk P w H h p (dO p o) := ⟨e, ⟨o, e⟩, fun _ _ a k => k _ a⟩
theorem dO_get {P : Program} {w : World} {H : Hp} {h : Heap} {p : Addr} {o : Obj} (ok : HOk P w H h) (e : H p = some (dO p o)) : h.get? p = some o := (ok p _ e).1
section
variable {X : Cx}
def IsEs (X : Cx) (o : Obj) (xs : Ents) : Prop := o.ExactDict ∧ ∃ es ep, o.data = .dict es ep ∧ es.toList = xs.map (entN X.w)
theorem IsEs.nil : IsEs X emptyO [] := ⟨⟨rfl, rfl, rfl⟩, #[], 0, rfl, rfl⟩
/-- the entries' keys are told -/
def KeysH (H : Hp) (xs : Ents) : Prop := ∀ x ∈ xs, ∃ kv, RelV kv x.2.1 ∧ IsKey H x.1 kv
theorem KeysH.is {H : Hp} {xs : Ents} (ks : KeysH H xs) {P : Program} {w : World} {h : Heap} (ok : HOk P w H h) : ∀ x ∈ xs, NIs h x.1 x.2.1 := fun x hx => by
  obtain ⟨kv, r, k⟩ := ks x hx
  exact k.is r ok
theorem KeysH.nil {H : Hp} : KeysH H [] := fun x hx => by cases hx
theorem RX.keysH {K : PySem.W.Frag} {G : Gh} {H : Hp} : ∀ {xs : Ents} {kvs : List (D × D)}, RX K G H xs kvs → KeysH H xs
  | [], [], _ => KeysH.nil
  | x :: xs, (a, b) :: kvs, h => fun y hy => by
    rcases List.mem_cons.mp hy with rfl | hy
    · obtain ⟨h1, ⟨kv, h2, h3⟩, _⟩ := h.1
      exact ⟨kv, h2, h3.isKey h1⟩
    · exact RX.keysH h.2 y hy
  | [], _ :: _, h => h.elim
  | _ :: _, [], h => h.elim
theorem dict_of {H : Hp} {h : Heap} {p : Addr} {o : Obj} {xs : Ents} (ok : HOk X.prog X.w H h) (e : H p = some (dO p o)) (ie : IsEs X o xs) (ks : KeysH H xs) (n : (xs.map (·.1)).Nodup) : DictN X.w h p xs := by
  obtain ⟨h1, es, ep, h2, h3⟩ := ie
  exact ⟨o, es, ep, dO_get ok e, h1, h2, h3, ks.is ok, n⟩
theorem es_of {h : Heap} {p : Addr} {xs : Ents} (d : DictN X.w h p xs) : ∃ o, h.get? p = some o ∧ IsEs X o xs := by
  obtain ⟨o, es, ep, h1, h2, h3, h4, _⟩ := d
  exact ⟨o, h1, h2, es, ep, h3, h4⟩
theorem room_of (hu : X.A.units + 65 < cLine) : X.A.units + 8 < cLine := by omega
def tDnil : TE := fun _ H Q => ∀ p, H p = none → (p == sysModules) = false → Q (.ref p) (upd H p (dO p emptyO))
theorem not_sys {pins : List (Addr × Obj)} {s : Shared} {σ : L2.St} {H : Hp} (I : Inv X pins σ H s) : (s.heap.objs.size == sysModules) = false := beq_eq_false_iff_ne.mpr (Ne.symm (Nat.ne_of_lt I.big))
theorem pe_dnil {pos : Pos} : PE X (.Dict [] [] pos) tDnil := ⟨fun pins s σ H Q I h =>
  wpAny_Dict_empty ⟨.ref s.heap.objs.size, _, I.laid (a := s.heap.objs.size) (o := dO s.heap.objs.size emptyO) (t' := s.toks) (fun _ _ q => Heap.get?_push_of_some _ q) (Nat.le_refl _) (dO_ok (Heap.get?_push_size _ rfl)), rfl, h _ (I.hok.fresh (Nat.le_refl _)) (not_sys I)⟩⟩
/-- a new dict of one pair -/
def tSub (X : Cx) (ta tb : TE) (σ : L2.St) (H : Hp) (R : Addr → NestedKey × Value × Value → V → V → Hp → Prop) : Prop := ∀ p, H p = none → (p == sysModules) = false → ta σ (upd H p (dO p emptyO)) fun x H1 => tb σ H1 fun y H2 => H2 p = some (dO p emptyO) ∧
  ∃ k, IsKey H2 k x ∧ ∀ o b u, RelV x b → IsEs X o [(k, b, u)] → RelV y u → R p (k, b, u) x y (upd H2 p (dO p o))
theorem sub_run (hu : X.A.units + 65 < cLine) {ek ev : Expr} {ta tb : TE} {pos : Pos} (ha : PE X ek ta) (hb : PE X ev tb) {pins : List (Addr × Obj)} {s : Shared} {σ : L2.St} {H : Hp} {R : Addr → NestedKey × Value × Value → V → V → Hp → Prop} (I : Inv X pins σ H s) (h : tSub X ta tb σ H R) :
    wpAny (model X.prog X.w) X.A (subDict [(eval ek X.env, do let x ← eval ev X.env; standAt pos; pure x)]) (fun d s' => ∃ o e x y H0 H', Inv X pins σ H' s' ∧ H' = upd H0 d (dO d o) ∧ IsEs X o [e] ∧ IsKey H0 e.1 x ∧ RelV x e.2.1 ∧ H0 d = some (dO d emptyO) ∧ (d == sysModules) = false ∧ R d e x y H') X.xe s := by
  have hn := I.hok.fresh (Nat.le_refl s.heap.objs.size)
  have I0 := I.laid (a := s.heap.objs.size) (o := dO s.heap.objs.size emptyO) (h' := s.heap.push emptyO) (t' := s.toks) (fun _ _ q => Heap.get?_push_of_some _ q) (Nat.le_refl _) (dO_ok (Heap.get?_push_size _ rfl))
  refine subDict_N (room_of hu) (by simp) ?_
  simp only [evalPairs]
  refine wpAny_bind (thn (ha.run pins _ σ _ _ I0 (h _ hn (not_sys I))) fun u s1 ⟨x, H1, I1, rx, q1⟩ => ?_)
  refine wpAny_bind (wpAny_holding (wpAny_bind (thn (hb.run pins s1 σ H1 _ I1 q1) fun u2 s2 ⟨y, H2, I2, ry, q2⟩ => wpAny_bind (wpAny_standAt (wpAny_pure ?_)))))
  refine wpAny_bind (wpAny_holding (wpAny_pure (wpAny_pure ?_)))
  obtain ⟨e2, k, hk, q3⟩ := q2
  refine ⟨[(k, u, u2)], ⟨⟨rfl, rfl, hk.is rx I2.hok⟩, True.intro⟩, dict_of I2.hok e2 IsEs.nil KeysH.nil List.nodup_nil, fun h' tk hd hs => ?_⟩
  have hd' : DictN X.w h' s.heap.objs.size [(k, u, u2)] := hd
  obtain ⟨o, g, ie⟩ := es_of hd'
  refine ⟨o, (k, u, u2), x, y, H2, _, ?_, rfl, ie, hk, rx, e2, not_sys I, q3 o u u2 rx ie ry⟩
  exact I2.write (x := s.heap.objs.size) (e := s.heap.objs.size) (by rw [e2]; exact True.intro) (.inl rfl) (fun b q hb z => (hs.2 b hb).trans z) ⟨o, g⟩ (dO_ok g)
/-- {k: v} -/
def tOne (X : Cx) (ta tb : TE) : TE := fun σ H Q => tSub X ta tb σ H fun p _ _ _ H' => Q (.ref p) H'
theorem pe_done (hu : X.A.units + 65 < cLine) {ek ev : Expr} {ta tb : TE} {pos : Pos} (ha : PE X ek ta) (hb : PE X ev tb) : PE X (.Dict [some ek] [ev] pos) (tOne X ta tb) := by
  refine ⟨fun pins s σ H Q I h => ?_⟩
  have e1 := dictDisplay_pairs [(eval ek X.env, do let x ← eval ev X.env; standAt pos; pure x)] (by simp) (by simp)
  simp only [List.map_cons, List.map_nil] at e1
  rw [arm_eval_Dict]
  show wpAny _ _ (do standAt pos; dictDisplay [(some (eval ek X.env), do let x ← eval ev X.env; standAt pos; pure x)]) _ _ _
  rw [e1]
  refine wpAny_bind (wpAny_standAt (wpAny_bind (thn (sub_run hu ha hb (I.tok _) h) fun d s' ⟨o, e, x, y, H0, H', I', _, _, _, _, _, _, q⟩ => wpAny_pure ?_)))
  exact ⟨.ref d, H', I', rfl, q⟩
/-- {k: v, k2: v2} -/
def tTwo (X : Cx) (ta tb tc td : TE) : TE := fun σ H Q => ∀ p, H p = none → (p == sysModules) = false → ta σ (upd H p (dO p emptyO)) fun x H1 => tb σ H1 fun y H2 => tc σ H2 fun z H3 => td σ H3 fun t H4 => H4 p = some (dO p emptyO) ∧
  ∃ k k2, IsKey H4 k x ∧ IsKey H4 k2 z ∧ ∀ o b u b2 u2, RelV x b → RelV y u → RelV z b2 → RelV t u2 → IsEs X o (storedN [(k, b, u)] k2 b2 u2) → ((storedN [(k, b, u)] k2 b2 u2).map (·.1)).Nodup → Q (.ref p) (upd H4 p (dO p o))
theorem pe_dtwo (hu : X.A.units + 65 < cLine) {ea eb ec ed : Expr} {ta tb tc td : TE} {pos : Pos} (ha : PE X ea ta) (hb : PE X eb tb) (hc : PE X ec tc) (hd : PE X ed td) : PE X (.Dict [some ea, some ec] [eb, ed] pos) (tTwo X ta tb tc td) := by
  refine ⟨fun pins s σ H Q I h => ?_⟩
  have e1 := dictDisplay_pairs [(eval ea X.env, do let x ← eval eb X.env; standAt pos; pure x), (eval ec X.env, do let x ← eval ed X.env; standAt pos; pure x)] (by simp) (by simp)
  simp only [List.map_cons, List.map_nil] at e1
  rw [arm_eval_Dict]
  show wpAny _ _ (do standAt pos; dictDisplay [(some (eval ea X.env), do let x ← eval eb X.env; standAt pos; pure x), (some (eval ec X.env), do let x ← eval ed X.env; standAt pos; pure x)]) _ _ _
  rw [e1]
  refine wpAny_bind (wpAny_standAt (wpAny_bind ?_))
  have hn := I.hok.fresh (Nat.le_refl s.heap.objs.size)
  have I0 := I.laid (a := s.heap.objs.size) (o := dO s.heap.objs.size emptyO) (h' := s.heap.push emptyO) (t' := s.toks) (fun _ _ q => Heap.get?_push_of_some _ q) (Nat.le_refl _) (dO_ok (Heap.get?_push_size _ rfl))
  refine subDict_N (room_of hu) (by simp) ?_
  simp only [evalPairs]
  refine wpAny_bind (thn (ha.run pins _ σ _ _ I0 (h _ hn (not_sys I))) fun u s1 ⟨x, H1, I1, rx, q1⟩ => ?_)
  refine wpAny_bind (wpAny_holding (wpAny_bind (thn (hb.run pins s1 σ H1 _ I1 q1) fun u2 s2 ⟨y, H2, I2, ry, q2⟩ => wpAny_bind (wpAny_standAt (wpAny_pure ?_)))))
  refine wpAny_bind (wpAny_holding ?_)
  refine wpAny_bind (thn (hc.run pins s2 σ H2 _ I2 q2) fun u3 s3 ⟨z, H3, I3, rz, q3⟩ => ?_)
  refine wpAny_bind (wpAny_holding (wpAny_bind (thn (hd.run pins s3 σ H3 _ I3 q3) fun u4 s4 ⟨t, H4, I4, rt, q4⟩ => wpAny_bind (wpAny_standAt (wpAny_pure ?_)))))
  refine wpAny_bind (wpAny_holding (wpAny_pure (wpAny_pure (wpAny_pure ?_))))
  obtain ⟨e2, k, k2, hk, hk2, q5⟩ := q4
  refine ⟨[(k, u, u2), (k2, u3, u4)], ⟨⟨rfl, rfl, hk.is rx I4.hok⟩, ⟨rfl, rfl, hk2.is rz I4.hok⟩, True.intro⟩, dict_of I4.hok e2 IsEs.nil KeysH.nil List.nodup_nil, fun h' tk hd hs => wpAny_pure ?_⟩
  have hd' : DictN X.w h' s.heap.objs.size (storedN [(k, u, u2)] k2 u3 u4) := hd
  obtain ⟨o, g, ie⟩ := es_of hd'
  refine ⟨.ref s.heap.objs.size, _, ?_, rfl, q5 o u u2 u3 u4 rx ry rz rt ie hd'.nodup⟩
  exact I4.write (x := s.heap.objs.size) (e := s.heap.objs.size) (by rw [e2]; exact True.intro) (.inl rfl) (fun b q hb z => (hs.2 b hb).trans z) ⟨o, g⟩ (dO_ok g)
/-- {**d, ..}, up to the copy of d -/
def tCopy (X : Cx) (td : TE) (σ : L2.St) (H : Hp) (R : Addr → Ents → Obj → Hp → Prop) : Prop := ∀ p, H p = none → (p == sysModules) = false → td σ (upd H p (dO p emptyO)) fun z H1 => ∃ (a : Addr) (xs : Ents), z = .ref a ∧ H1 p = some (dO p emptyO) ∧ a ≠ p ∧ (a == sysModules) = false ∧
  KeysH H1 xs ∧ (∀ hp, HOk X.prog X.w H1 hp → DictN X.w hp a xs) ∧ Apart X.w xs ∧ xs.length ≤ 1000000 ∧ ∀ ob, IsEs X ob xs → (xs.map (·.1)).Nodup → R p xs ob (upd H1 p (dO p ob))
theorem copy_run (hu : X.A.units + 65 < cLine) {ed : Expr} {td : TE} {pos : Pos} (hd : PE X ed td) {pins : List (Addr × Obj)} {s : Shared} {σ : L2.St} {H : Hp} {R : Addr → Ents → Obj → Hp → Prop} (I : Inv X pins σ H s) (h : tCopy X td σ H R) :
    wpAny (model X.prog X.w) X.A (do let x ← eval ed X.env; standAt pos; pure x) (fun m s1 => ∀ E1, wpAny (model X.prog X.w) X.A (mergeMapping s.heap.objs.size m false) (fun _ s2 => ∃ xs ob H2, Inv X pins σ H2 s2 ∧ R s.heap.objs.size xs ob H2 ∧ IsEs X ob xs ∧ (xs.map (·.1)).Nodup ∧ xs.length ≤ 1000000 ∧ H2 s.heap.objs.size = some (dO s.heap.objs.size ob)) E1 s1) X.xe
      { s with heap := s.heap.push { cls := .type "dict", data := .dict #[] } } := by
  have hn := I.hok.fresh (Nat.le_refl s.heap.objs.size)
  have I0 := I.laid (a := s.heap.objs.size) (o := dO s.heap.objs.size emptyO) (h' := s.heap.push emptyO) (t' := s.toks) (fun _ _ q => Heap.get?_push_of_some _ q) (Nat.le_refl _) (dO_ok (Heap.get?_push_size _ rfl))
  refine wpAny_bind (thn (hd.run pins _ σ _ _ I0 (h _ hn (not_sys I))) fun m s1 ⟨z, H1, I1, rz, q1⟩ => wpAny_bind (wpAny_standAt (wpAny_pure ?_)))
  obtain ⟨a, xs, rfl, ep, hap, has, ks, hdict, hh, hl, q1⟩ := q1
  obtain rfl : m = Value.ref a := rz
  intro E1
  have hda := hdict _ I1.hok
  have hz := sizeLine_eq
  refine merge_N (xs := []) (room_of hu) (Ne.symm hap) has (dict_of I1.hok ep IsEs.nil KeysH.nil List.nodup_nil) hda (.inr hh) (by rw [hz]; simp; omega) (fun h1 hd1 ha1 hs1 => ?_)
  rw [storedAllN_nil hda.nodup] at hd1
  obtain ⟨ob, g, ie⟩ := es_of hd1
  have I2 : Inv X pins σ (upd H1 s.heap.objs.size (dO s.heap.objs.size ob)) { s1 with heap := h1 } :=
    I1.write (x := s.heap.objs.size) (e := s.heap.objs.size) (by rw [ep]; exact True.intro) (.inl rfl) (fun b q hb z => (hs1.2 b hb).trans z) ⟨ob, g⟩ (dO_ok g)
  exact ⟨xs, ob, _, I2, q1 ob ie hda.nodup, ie, hda.nodup, hl, upd_same⟩
/-- {**d, k: v} -/
def tStar (X : Cx) (td ta tb : TE) : TE := fun σ H Q => tCopy X td σ H fun p xs ob H2 => tSub X ta tb σ H2 fun q e x y H3 => q ≠ p ∧ H3 p = some (dO p ob) ∧ KeysH H3 xs ∧ IsKey H3 e.1 x ∧ RelV x e.2.1 ∧
  ∀ ob2, IsEs X ob2 (storedN xs e.1 e.2.1 e.2.2) → ((storedN xs e.1 e.2.1 e.2.2).map (·.1)).Nodup → Q (.ref p) (upd H3 p (dO p ob2))
theorem pe_dput (hu : X.A.units + 65 < cLine) {ed ek ev : Expr} {td ta tb : TE} {pos : Pos} (hd : PE X ed td) (ha : PE X ek ta) (hb : PE X ev tb) : PE X (.Dict [none, some ek] [ed, ev] pos) (tStar X td ta tb) := by
  refine ⟨fun pins s σ H Q I h => ?_⟩
  rw [arm_eval_Dict]
  show wpAny _ _ (do standAt pos; dictDisplay [(none, do let x ← eval ed X.env; standAt pos; pure x), (some (eval ek X.env), do let x ← eval ev X.env; standAt pos; pure x)]) _ _ _
  refine wpAny_bind (wpAny_standAt (star_N (wpAny_mono (copy_run hu hd I h) (fun m s1 h1 E1 => wpAny_mono (h1 E1) (fun _ s2 h2 => ?_) fun _ _ e => e) fun _ _ e => e)))
  obtain ⟨xs, ob, H2, I2, q1, ie, nd, hl, hp2⟩ := h2
  refine thn (sub_run hu ha hb I2 q1) fun q s3 ⟨o, e, x, y, H0, H', I3, eH, ie3, ke, rke, _, hq, r3⟩ => ?_
  obtain ⟨hqp, e3, k3, ke3, rke3, fin⟩ := r3
  intro E2
  have hz := sizeLine_eq
  have dp := dict_of I3.hok e3 ie k3 nd
  have dq : DictN X.w s3.heap q [e] := dict_of I3.hok (by rw [eH]; exact upd_same) ie3 (fun x' hx => by rw [List.mem_singleton.mp hx]; exact ⟨x, rke3, ke3⟩) (by simp)
  refine merge_N (room_of hu) (Ne.symm hqp) hq dp dq (.inr fun x' hx => .inr (Nat.le_trans (List.length_filter_le _ _) (by simp))) (by rw [hz]; simp; omega) (fun h4 hd4 ha4 hs4 => ?_)
  have hd4' : DictN X.w h4 s.heap.objs.size (storedN xs e.1 e.2.1 e.2.2) := hd4
  obtain ⟨ob2, g2, ie2⟩ := es_of hd4'
  refine ⟨.ref s.heap.objs.size, _, ?_, rfl, fin ob2 ie2 hd4'.nodup⟩
  exact I3.write (x := s.heap.objs.size) (e := s.heap.objs.size) (by rw [e3]; exact True.intro) (.inl rfl) (fun b q hb z => (hs4.2 b hb).trans z) ⟨ob2, g2⟩ (dO_ok g2)
/-- {**d, **e} -/
def tStar2 (X : Cx) (td te : TE) : TE := fun σ H Q => tCopy X td σ H fun p xs ob H2 => te σ H2 fun z H3 => ∃ (b : Addr) (ys : Ents), z = .ref b ∧ b ≠ p ∧ (b == sysModules) = false ∧ H3 p = some (dO p ob) ∧ KeysH H3 xs ∧ KeysH H3 ys ∧ (∀ hp, HOk X.prog X.w H3 hp → DictN X.w hp b ys) ∧ (xs ≠ [] ∨ Apart X.w ys) ∧ ys.length ≤ 1000001 ∧
  ∀ ob2, IsEs X ob2 (storedAllN xs ys) → ((storedAllN xs ys).map (·.1)).Nodup → Q (.ref p) (upd H3 p (dO p ob2))
theorem pe_dmrg (hu : X.A.units + 65 < cLine) {ed ee : Expr} {td te : TE} {pos : Pos} (hd : PE X ed td) (he : PE X ee te) : PE X (.Dict [none, none] [ed, ee] pos) (tStar2 X td te) := by
  refine ⟨fun pins s σ H Q I h => ?_⟩
  rw [arm_eval_Dict]
  show wpAny _ _ (do standAt pos; dictDisplay [(none, do let x ← eval ed X.env; standAt pos; pure x), (none, do let x ← eval ee X.env; standAt pos; pure x)]) _ _ _
  refine wpAny_bind (wpAny_standAt (star2_N (wpAny_mono (copy_run hu hd I h) (fun m s1 h1 E1 => wpAny_mono (h1 E1) (fun _ s2 h2 => ?_) fun _ _ e => e) fun _ _ e => e)))
  obtain ⟨xs, ob, H2, I2, q1, ie, nd, hl, hp2⟩ := h2
  refine wpAny_bind (thn (he.run pins _ σ _ _ I2 q1) fun m s3 ⟨z, H3, I3, rz, q3⟩ => wpAny_bind (wpAny_standAt (wpAny_pure ?_)))
  obtain ⟨b, ys, rfl, hbp, hbs, e3, k3, k4, hdb, hap, hl2, fin⟩ := q3
  obtain rfl : m = Value.ref b := rz
  intro E2
  have hz := sizeLine_eq
  refine merge_N (room_of hu) (Ne.symm hbp) hbs (dict_of I3.hok e3 ie k3 nd) (hdb _ I3.hok) hap (by rw [hz]; omega) (fun h4 hd4 ha4 hs4 => ?_)
  obtain ⟨ob2, g2, ie2⟩ := es_of hd4
  refine ⟨.ref s.heap.objs.size, _, ?_, rfl, fin ob2 ie2 hd4.nodup⟩
  exact I3.write (x := s.heap.objs.size) (e := s.heap.objs.size) (by rw [e3]; exact True.intro) (.inl rfl) (fun b q hb z => (hs4.2 b hb).trans z) ⟨ob2, g2⟩ (dO_ok g2)
end
/-! ### the ghost: what is made may change while it is made -/
def ghM (G : Gh) (p : Addr) : Gh := ⟨G.g, fun a => G.B a ∨ a = p, G.T⟩
def ghU (G : Gh) (p : Addr) : Gh := ⟨G.g, fun a => G.B a ∧ a ≠ p, G.T⟩
section
variable {G G1 G2 : Gh} {H H1 H2 : Hp} {p : Addr} {o : HO} {c : Cup}
theorem Ext.mark (h : H p = none) (k : nt o) : Ext G H (ghM G p) (upd H p o) where
  keep := fun a u e _ _ => by rw [upd_ne (ne_of_none e h)]; exact e
  cup := fun _ h => h
  new := fun _ h => .inl h
  sub := fun _ h => .inl h
  add := fun a ha => by
    rcases ha with ha | rfl
    · exact .inl ha
    · exact .inr (nh_none h)
  live := live_upd k
  tt := rfl
theorem Trk.mark (t : Trk G H) (q : CupR G H c) (h : H p = none) (k : nt o) : Trk (ghM G p) (upd H p o) where
  there := fun a ha => by
    rcases ha with ha | rfl
    · exact live_upd k a (t.there a ha)
    · exact nh_no upd_same k
  apart := fun a ha => by
    rcases ha with ha | rfl
    · exact t.apart a ha
    · exact fun z => q.there z (nh_none h)
  tb := t.tb.made h k
theorem CupR.mark (t : CupR G H c) (h : H p = none) : CupR (ghM G p) (upd H p o) c := by
  cases c with
  | none => exact t
  | some q =>
    obtain ⟨a, e1, e2⟩ := t
    exact ⟨a, e1, by rw [upd_ne (ne_of_none e2 h)]; exact e2⟩
theorem Ext.umk (e : Ext G H G1 H1) (t : Trk G H) (h : nh H p = none) (k : nt o) : Ext G H (ghU G1 p) (upd H1 p o) where
  keep := fun a u q n g => by
    rw [upd_ne (nh_ne q n h)]
    exact e.keep a u q n g
  cup := e.cup
  new := e.new
  sub := fun a ha => ⟨e.sub a ha, fun z => by rw [z] at ha; exact t.there p ha h⟩
  add := fun a ha => e.add a ha.1
  live := fun a n => live_upd k a (e.live a n)
  tt := e.tt
/-- the object is a dict -/
def isDct (q : Obj) : Prop := ∃ es ep, q.data = .dict es ep
theorem dO_at (p : Addr) {q : Obj} (hq : isDct q) : ∃ h : Heap, h.get? p = some q := by
  refine ⟨{ objs := Array.replicate (p + 1) q }, ?_⟩
  obtain ⟨es, ep, hq⟩ := hq
  obtain ⟨c, d, dt, sl⟩ := q
  simp only at hq
  subst hq
  unfold Heap.get?
  have e : (Array.replicate (p + 1) (⟨c, d, .dict es ep, sl⟩ : Obj))[p]? = some ⟨c, d, .dict es ep, sl⟩ := by
    rw [Array.getElem?_replicate, if_pos (Nat.lt_succ_self p)]
  show (match (Array.replicate (p + 1) (⟨c, d, .dict es ep, sl⟩ : Obj))[p]? with
    | some ⟨_, _, .freed, _⟩ => none
    | o => o) = _
  rw [e]
theorem dO_ne {p : Addr} {q : Obj} (hq : isDct q) {R : Array Value → Tok → Prop} (e : (HO.ext fun h : Heap => ∃ oc vs t, h.get? p = some oc ∧ oc.data = .fields vs ∧ R vs t) = dO p q) : False := by
  obtain ⟨h, hh⟩ := dO_at p hq
  have e1 := HO.ext.inj e
  have e2 := congrFun e1 h
  obtain ⟨oc, vs, t, a1, a2, _⟩ := e2.symm ▸ hh
  rw [hh] at a1
  cases a1
  obtain ⟨es, ep, hq⟩ := hq
  rw [hq] at a2
  cases a2
theorem Tb.ext' {T : List (Addr × Str)} {q : Obj} {o : HO} (hq : isDct q) (t : Tb T H) (h : H p = some (dO p q)) (n : nt o) : Tb T (L2.upd H p o) := by
  refine ⟨fun q hq' => ?_⟩
  obtain ⟨ps, h1, h2, h3⟩ := t.tabs q hq'
  refine ⟨ps, ?_, h2, fun pos cv hc => ?_⟩
  · rw [upd_ne (fun z => by rw [z, h] at h1; cases h1)]; exact h1
  · obtain ⟨c, e1, e2⟩ := h3 pos cv hc
    exact ⟨c, e1, by rw [upd_ne (fun z => by rw [z, h] at e2; exact dO_ne hq (Option.some.inj e2).symm)]; exact e2⟩
theorem Trk.umk {q : Obj} (hq : isDct q) (t : Trk G H) (h : H p = some (dO p q)) (k : nt o) : Trk (ghU G p) (upd H p o) where
  there := fun a ha => live_upd k a (t.there a ha.1)
  apart := fun a ha => t.apart a ha.1
  tb := t.tb.ext' hq h k
theorem CupR.umk {q : Obj} (r : CupR G H c) (h : H p = some (dO p q)) : CupR (ghU G p) (upd H p o) c := by
  cases c with
  | none => exact r
  | some z =>
    obtain ⟨a, e1, e2⟩ := r
    exact ⟨a, e1, by rw [upd_ne (fun y => by rw [y, h] at e2; cases e2)]; exact e2⟩
/-- what may change is written, and may change no more -/
theorem Stb.umk (b : G.B p) (k : nt o) : Stb G H (ghU G p) (upd H p o) where
  keep := fun a u e _ n => by rw [upd_ne (fun z => n (by rw [z]; exact .inl b))]; exact e
  more := fun a h => by
    rcases h with h | h
    · exact .inl (.inl h.1)
    · exact .inl (.inr h)
  cup := fun _ h => h
  live := live_upd k
/-- the same, and may go on changing -/
theorem Stb.wr (b : G.B p) (k : nt o) : Stb G H G (upd H p o) where
  keep := fun a u e _ n => by rw [upd_ne (fun z => n (by rw [z]; exact .inl b))]; exact e
  more := fun a h => .inl h
  cup := fun _ h => h
  live := live_upd k
theorem Ext.wr (e : Ext G H G1 H1) (h : nh H p = none) (k : nt o) : Ext G H G1 (upd H1 p o) where
  keep := fun a u q n g => by
    rw [upd_ne (nh_ne q n h)]
    exact e.keep a u q n g
  cup := e.cup
  new := e.new
  sub := e.sub
  add := e.add
  live := fun a n => live_upd k a (e.live a n)
  tt := e.tt
theorem Trk.wr {q : Obj} (hq : isDct q) (t : Trk G H) (h : H p = some (dO p q)) (k : nt o) : Trk G (upd H p o) where
  there := fun a ha => live_upd k a (t.there a ha)
  apart := t.apart
  tb := t.tb.ext' hq h k
theorem CupR.wr {q : Obj} (r : CupR G H c) (h : H p = some (dO p q)) : CupR G (upd H p o) c := by
  cases c with
  | none => exact r
  | some z =>
    obtain ⟨a, e1, e2⟩ := r
    exact ⟨a, e1, by rw [upd_ne (fun y => by rw [y, h] at e2; cases e2)]; exact e2⟩
theorem At.by {K : PySem.W.Frag} {σ : L2.St} {ρ : Env} {c' : Cup} (a : At K G H σ ρ c) (e : Ext G H G1 H1) (t : Trk G1 H1) (q : CupR G1 H1 c') : At K G1 H1 σ ρ c' := a.stay e t q
end
section
variable {X : Cx} {W : WX} {σ : L2.St} {α β ω ψ : Type} {R : Gh → Hp → ω → α → Prop} {S : Gh → Hp → ψ → β → Prop} {G G0 : Gh} {H H0 : Hp} {c : Cup}
theorem Post.bind0 {m : M α} {f : α → M β} {Q : ψ → Hp → Prop} {Q1 : ω → Hp → Prop} (e0 : Ext G H G0 H0) (p : Post X W σ S G H (M.bind m f c) Q)
    (h : ∀ d c1 v H1 G1, Ext G0 H0 G1 H1 → Trk G1 H1 → CupR G1 H1 c1 → R G1 H1 v d → Post X W σ S G H (f d c1) Q → Q1 v H1) : Post X W σ R G0 H0 (m c) Q1 := by
  unfold M.bind at p
  cases e : m c with
  | ok d c1 =>
    rw [e] at p
    exact fun v H1 G1 e1 t1 q1 r1 => h d c1 v H1 G1 e1 t1 q1 r1 p
  | exc k c1 =>
    rw [e] at p
    exact fun cv dx H' G' e' => p cv dx H' G' (e0.trans e')
  | stuck =>
    rw [e] at p
    exact p.elim
end
theorem empty_dct : isDct emptyO := ⟨#[], 0, rfl⟩
theorem IsEs.dct {X : Cx} {o : Obj} {xs : Ents} (h : IsEs X o xs) : isDct o := ⟨_, _, h.2.choose_spec.choose_spec.1⟩
section
variable {X : Cx} {W : WX}
theorem dctAt_of {G : Gh} {H : Hp} {p : Addr} {o : Obj} {xs : Ents} {kvs : List (D × D)} (h : H p = some (dO p o)) (ie : IsEs X o xs) (hs : (p == sysModules) = false) (nd : (xs.map (·.1)).Nodup) (hl : kvs.length ≤ 1000001) (r : RX X.K G H xs kvs) : DctAt X.K G H p kvs := by
  obtain ⟨h1, es, ep, h2, h3⟩ := ie
  exact ⟨o, es, ep, h, h1, h2, hs, r.knodup nd, hl, by rw [h3]; exact r.den X.w⟩
theorem se_dnil {pos : Pos} : SE X W (.Dict [] [] pos) fun _ => M.pure (.dct []) := by
  refine ⟨_, pe_dnil, fun σ H G ρ c Q at0 p => ?_⟩
  intro a hn hs
  exact p (.ref a) _ G (Ext.made hn) (at0.trk.made hn) (at0.cup.made hn) ((dctAt_of (kvs := []) upd_same IsEs.nil hs (by simp) (by simp) True.intro).den (not_F at0.trk at0.cup hn))
theorem not_U {G : Gh} {p : Addr} (t : ∀ a, G.B a → G.g ≠ some a) (h : G.B p) : ¬ (ghU G p).F p := by
  rintro (z | z)
  · exact z.2 rfl
  · exact t p h z
theorem se_done (hu : X.A.units + 65 < cLine) {a b : Expr} {ma mb : PF.Env → M D} {pos : Pos} (ha : SE X W a ma) (hb : SE X W b mb) :
    SE X W (.Dict [some a] [b] pos) fun ρ => M.bind (ma ρ) fun x => M.bind (mb ρ) fun y => M.lift (dOne x y) := by
  obtain ⟨ta, a1, a2⟩ := ha
  obtain ⟨tb, b1, b2⟩ := hb
  refine ⟨_, pe_done hu a1 b1, fun σ H G ρ c Q at0 p => ?_⟩
  intro q hn hs
  have e0 : Ext G H (ghM G q) (upd H q (dO q emptyO)) := Ext.mark hn True.intro
  refine a2 σ _ (ghM G q) ρ c _ (at0.stay e0 (at0.trk.mark at0.cup hn True.intro) (at0.cup.mark hn)) (p.bind0 e0 fun x c1 v H1 G1 e1 t1 q1 r1 p1 => ?_)
  refine b2 σ H1 G1 ρ c1 _ (at0.stay (e0.trans e1) t1 q1) (p1.bind0 (e0.trans e1) fun y c2 u H2 G2 e2 t2 q2 r2 p2 => ?_)
  obtain ⟨z, ez, k⟩ := p2.lift1
  unfold dOne at ez
  rw [Option.map_eq_some_iff] at ez
  obtain ⟨kk, hk, rfl⟩ := ez
  have e12 := e1.trans e2
  have hB : G2.B q := e12.sub q (.inr rfl)
  have hq2 : H2 q = some (dO q emptyO) := e12.keep q _ upd_same True.intro (fun z => at0.cup.there z (nh_none hn))
  have r1' := Den.stay e2.stb _ _ r1
  refine ⟨hq2, kk, r1'.isKey hk, fun o bb uu rb ie ru => ?_⟩
  have st : Stb G2 H2 (ghU G2 q) (upd H2 q (dO q o)) := Stb.umk hB True.intro
  refine k (.ref q) _ (ghU G2 q) (Ext.umk (e0.trans e12) at0.trk (nh_none hn) True.intro) (t2.umk empty_dct hq2 True.intro) (q2.umk hq2) ?_
  exact (dctAt_of (kvs := [(x, y)]) upd_same ie hs (by simp) (by simp) ⟨⟨hk, ⟨v, rb, Den.stay st _ _ r1'⟩, u, ru, Den.stay st _ _ r2⟩, True.intro⟩).den (not_U t2.apart hB)
theorem dPut_length (kvs : List (D × D)) (k : NestedKey) (a v : D) : (dPut kvs k a v).length ≤ kvs.length + 1 := by
  unfold dPut
  split <;> simp
theorem dAll_length : ∀ (more kvs out : List (D × D)), dAll kvs more = some out → out.length ≤ kvs.length + more.length
  | [], kvs, out, e => by simp only [dAll, Option.some.injEq] at e; subst e; simp
  | (a, b) :: more, kvs, out, e => by
    simp only [dAll, Option.bind_eq_some_iff] at e
    obtain ⟨k, _, e⟩ := e
    have h1 := dAll_length more _ _ e
    have h2 := dPut_length kvs k a b
    simp
    omega
theorem se_dtwo (hu : X.A.units + 65 < cLine) {a b c d : Expr} {ma mb mc md : PF.Env → M D} {pos : Pos} (ha : SE X W a ma) (hb : SE X W b mb) (hc : SE X W c mc) (hd : SE X W d md) :
    SE X W (.Dict [some a, some c] [b, d] pos) fun ρ => M.bind (ma ρ) fun x => M.bind (mb ρ) fun y => M.bind (mc ρ) fun z => M.bind (md ρ) fun u => M.lift (dTwo x y z u) := by
  obtain ⟨ta, a1, a2⟩ := ha
  obtain ⟨tb, b1, b2⟩ := hb
  obtain ⟨tc, cc1, cc2⟩ := hc
  obtain ⟨td, d1, d2⟩ := hd
  refine ⟨_, pe_dtwo hu a1 b1 cc1 d1, fun σ H G ρ c Q at0 p => ?_⟩
  intro q hn hs
  have e0 : Ext G H (ghM G q) (upd H q (dO q emptyO)) := Ext.mark hn True.intro
  refine a2 σ _ (ghM G q) ρ c _ (at0.stay e0 (at0.trk.mark at0.cup hn True.intro) (at0.cup.mark hn)) (p.bind0 e0 fun x c1 v H1 G1 e1 t1 q1 r1 p1 => ?_)
  refine b2 σ H1 G1 ρ c1 _ (at0.stay (e0.trans e1) t1 q1) (p1.bind0 (e0.trans e1) fun y c2 u H2 G2 e2 t2 q2 r2 p2 => ?_)
  have e12 := e1.trans e2
  refine cc2 σ H2 G2 ρ c2 _ (at0.stay (e0.trans e12) t2 q2) (p2.bind0 (e0.trans e12) fun x3 c3 v3 H3 G3 e3 t3 q3 r3 p3 => ?_)
  have e123 := e12.trans e3
  refine d2 σ H3 G3 ρ c3 _ (at0.stay (e0.trans e123) t3 q3) (p3.bind0 (e0.trans e123) fun x4 c4 v4 H4 G4 e4 t4 q4 r4 p4 => ?_)
  have eA := e123.trans e4
  obtain ⟨z, ez, k⟩ := p4.lift1
  unfold dTwo at ez
  rw [Option.bind_eq_some_iff] at ez
  obtain ⟨k1, hk1, ez⟩ := ez
  rw [Option.map_eq_some_iff] at ez
  obtain ⟨k2, hk2, rfl⟩ := ez
  have hB : G4.B q := eA.sub q (.inr rfl)
  have hq4 : H4 q = some (dO q emptyO) := eA.keep q _ upd_same True.intro (fun z => at0.cup.there z (nh_none hn))
  have r1' := Den.stay ((e2.trans e3).trans e4).stb _ _ r1
  have r2' := Den.stay (e3.trans e4).stb _ _ r2
  have r3' := Den.stay e4.stb _ _ r3
  refine ⟨hq4, k1, k2, r1'.isKey hk1, r3'.isKey hk2, fun o bb uu bb2 uu2 rb ru rb2 ru2 ie nd => ?_⟩
  have st : Stb G4 H4 (ghU G4 q) (upd H4 q (dO q o)) := Stb.umk hB True.intro
  refine k (.ref q) _ (ghU G4 q) (Ext.umk (e0.trans eA) at0.trk (nh_none hn) True.intro) (t4.umk empty_dct hq4 True.intro) (q4.umk hq4) ?_
  have rx : RX X.K (ghU G4 q) (upd H4 q (dO q o)) [(k1, bb, uu)] [(x, y)] := ⟨⟨hk1, ⟨v, rb, Den.stay st _ _ r1'⟩, u, ru, Den.stay st _ _ r2'⟩, True.intro⟩
  exact (dctAt_of upd_same ie hs nd (Nat.le_trans (dPut_length _ _ _ _) (by simp)) (rx.put hk2 rb2 (Den.stay st _ _ r3') ru2 (Den.stay st _ _ r4))).den (not_U t4.apart hB)
theorem se_dput (hu : X.A.units + 65 < cLine) {d a b : Expr} {md ma mb : PF.Env → M D} {pos : Pos} (hd : SE X W d md) (ha : SE X W a ma) (hb : SE X W b mb) :
    SE X W (.Dict [none, some a] [d, b] pos) fun ρ => M.bind (md ρ) fun z => M.bind (M.lift (dOk z)) fun kvs => M.bind (ma ρ) fun x => M.bind (mb ρ) fun y => M.lift (dPutO kvs x y) := by
  obtain ⟨td, d1, d2⟩ := hd
  obtain ⟨ta, a1, a2⟩ := ha
  obtain ⟨tb, b1, b2⟩ := hb
  refine ⟨_, pe_dput hu d1 a1 b1, fun σ H G ρ c Q at0 p => ?_⟩
  intro pp hn hs
  have e0 : Ext G H (ghM G pp) (upd H pp (dO pp emptyO)) := Ext.mark hn True.intro
  refine d2 σ _ (ghM G pp) ρ c _ (at0.stay e0 (at0.trk.mark at0.cup hn True.intro) (at0.cup.mark hn)) (p.bind0 e0 fun dd c1 v H1 G1 e1 t1 q1 r1 p1 => ?_)
  have ee1 := e0.trans e1
  have hB1 : G1.B pp := e1.sub pp (.inr rfl)
  have hp1 : H1 pp = some (dO pp emptyO) := e1.keep pp _ upd_same True.intro (fun z => at0.cup.there z (nh_none hn))
  obtain ⟨kvs, ek, p1'⟩ := p1.lift
  clear p1
  cases dd <;> simp only [dOk, reduceCtorEq] at ek
  rename_i kvs'
  split at ek
  rotate_left
  · cases ek
  rename_i hok
  cases ek
  rw [Bool.and_eq_true] at hok
  have hsm : kvs.length ≤ 1000000 := of_decide_eq_true hok.2
  obtain ⟨a', rfl, nF, dat⟩ := r1.dctAt
  obtain ⟨xs, rx, has, nd, hl, _, hdict⟩ := dat.dict X.prog X.w
  have hne : a' ≠ pp := fun z => nF (by rw [z]; exact .inl hB1)
  refine ⟨a', xs, rfl, hp1, hne, has, rx.keysH, hdict, rx.apart X.w hok.1, by omega, fun ob ie _ => ?_⟩
  intro q hq hqs
  -- behind the copy
  have hqp : q ≠ pp := fun z => by rw [z, upd_same] at hq; cases hq
  have st1 : Stb G1 H1 G1 (upd H1 pp (dO pp ob)) := Stb.wr hB1 True.intro
  have rx1 := rx.stay st1
  have eA : Ext G H G1 (upd H1 pp (dO pp ob)) := ee1.wr (nh_none hn) True.intro
  have tA := t1.wr empty_dct hp1 (o := dO pp ob) True.intro
  have cA := q1.wr hp1 (o := dO pp ob)
  have eQ : Ext G1 (upd H1 pp (dO pp ob)) (ghM G1 q) (upd (upd H1 pp (dO pp ob)) q (dO q emptyO)) := Ext.mark hq True.intro
  have eB := eA.trans eQ
  have tB := tA.mark cA hq (o := dO q emptyO) True.intro
  have cB := cA.mark hq (o := dO q emptyO)
  refine a2 σ _ (ghM G1 q) ρ c1 _ (at0.stay eB tB cB) (p1'.bind0 eB fun x c2 v H2 G2 e2 t2 q2 r2 p2 => ?_)
  have eC := eB.trans e2
  refine b2 σ H2 G2 ρ c2 _ (at0.stay eC t2 q2) (p2.bind0 eC fun y c3 u H3 G3 e3 t3 q3 r3 p3 => ?_)
  obtain ⟨z, ez, k⟩ := p3.lift1
  unfold dPutO at ez
  rw [Option.map_eq_some_iff] at ez
  obtain ⟨kk, hk, rfl⟩ := ez
  have e23 := e2.trans e3
  have hBq : G3.B q := e23.sub q (.inr rfl)
  have hBp : G3.B pp := e23.sub pp (.inl hB1)
  have gp : ∀ b, (ghM G1 q).B b → (ghM G1 q).g ≠ some b := tB.apart
  have hq3 : H3 q = some (dO q emptyO) := e23.keep q _ upd_same True.intro (gp q (.inr rfl))
  have hp3 : H3 pp = some (dO pp ob) := e23.keep pp _ (by rw [upd_ne (Ne.symm hqp)]; exact upd_same) True.intro (gp pp (.inl hB1))
  have r2' := Den.stay e3.stb _ _ r2
  refine ⟨hq3, kk, r2'.isKey hk, fun o bb uu rb ie3 ru => ?_⟩
  have st2 : Stb G3 H3 (ghU G3 q) (upd H3 q (dO q o)) := Stb.umk hBq True.intro
  have rx3 : RX X.K (ghU G3 q) (upd H3 q (dO q o)) xs kvs := ((rx1.stay eQ.stb).stay e23.stb).stay st2
  have r2u := Den.stay st2 _ _ r2'
  have r3u := Den.stay st2 _ _ r3
  have hpu : (upd H3 q (dO q o)) pp = some (dO pp ob) := by rw [upd_ne (Ne.symm hqp)]; exact hp3
  refine ⟨hqp, hpu, rx3.keysH, r2u.isKey hk, rb, fun ob2 ie4 nd4 => ?_⟩
  have hBp' : (ghU G3 q).B pp := ⟨hBp, Ne.symm hqp⟩
  have st4 : Stb (ghU G3 q) (upd H3 q (dO q o)) (ghU (ghU G3 q) pp) (upd (upd H3 q (dO q o)) pp (dO pp ob2)) := Stb.umk hBp' True.intro
  have nq : nh H q = none := by
    have z1 : nh (upd H1 pp (dO pp ob)) q = none := nh_none hq
    exact eA.back z1
  have eD : Ext G H (ghU G3 q) (upd H3 q (dO q o)) := Ext.umk (eC.trans e3) at0.trk nq True.intro
  have tD := t3.umk empty_dct hq3 (o := dO q o) True.intro
  have cD := q3.umk hq3 (o := dO q o)
  refine k (.ref pp) _ (ghU (ghU G3 q) pp) (Ext.umk eD at0.trk (nh_none hn) True.intro) (tD.umk ie.dct hpu True.intro) (cD.umk hpu) ?_
  exact (dctAt_of upd_same ie4 hs nd4 (Nat.le_trans (dPut_length kvs kk x y) (by omega)) ((rx3.stay st4).put hk rb (Den.stay st4 _ _ r2u) ru (Den.stay st4 _ _ r3u))).den (not_U tD.apart hBp')
theorem se_dmrg (hu : X.A.units + 65 < cLine) {d a : Expr} {md ma : PF.Env → M D} {pos : Pos} (hd : SE X W d md) (ha : SE X W a ma) :
    SE X W (.Dict [none, none] [d, a] pos) fun ρ => M.bind (md ρ) fun z => M.bind (M.lift (dOk z)) fun kvs => M.bind (ma ρ) fun y => M.lift (dMrg kvs y) := by
  obtain ⟨td, d1, d2⟩ := hd
  obtain ⟨ta, a1, a2⟩ := ha
  refine ⟨_, pe_dmrg hu d1 a1, fun σ H G ρ c Q at0 p => ?_⟩
  intro pp hn hs
  have e0 : Ext G H (ghM G pp) (upd H pp (dO pp emptyO)) := Ext.mark hn True.intro
  refine d2 σ _ (ghM G pp) ρ c _ (at0.stay e0 (at0.trk.mark at0.cup hn True.intro) (at0.cup.mark hn)) (p.bind0 e0 fun dd c1 v H1 G1 e1 t1 q1 r1 p1 => ?_)
  have ee1 := e0.trans e1
  have hB1 : G1.B pp := e1.sub pp (.inr rfl)
  have hp1 : H1 pp = some (dO pp emptyO) := e1.keep pp _ upd_same True.intro (fun z => at0.cup.there z (nh_none hn))
  obtain ⟨kvs, ek, p1'⟩ := p1.lift
  clear p1
  cases dd <;> simp only [dOk, reduceCtorEq] at ek
  rename_i kvs'
  split at ek
  rotate_left
  · cases ek
  rename_i hok
  cases ek
  rw [Bool.and_eq_true] at hok
  have hsm : kvs.length ≤ 1000000 := of_decide_eq_true hok.2
  obtain ⟨a', rfl, nF, dat⟩ := r1.dctAt
  obtain ⟨xs, rx, has, nd, hl, _, hdict⟩ := dat.dict X.prog X.w
  have hne : a' ≠ pp := fun z => nF (by rw [z]; exact .inl hB1)
  refine ⟨a', xs, rfl, hp1, hne, has, rx.keysH, hdict, rx.apart X.w hok.1, by omega, fun ob ie _ => ?_⟩
  have st1 : Stb G1 H1 G1 (upd H1 pp (dO pp ob)) := Stb.wr hB1 True.intro
  have rx1 := rx.stay st1
  have eA : Ext G H G1 (upd H1 pp (dO pp ob)) := ee1.wr (nh_none hn) True.intro
  have tA := t1.wr empty_dct hp1 (o := dO pp ob) True.intro
  have cA := q1.wr hp1 (o := dO pp ob)
  refine a2 σ _ G1 ρ c1 _ (at0.stay eA tA cA) (p1'.bind0 eA fun y c2 v H2 G2 e2 t2 q2 r2 p2 => ?_)
  have eC := eA.trans e2
  obtain ⟨z, ez, k⟩ := p2.lift1
  cases y <;> simp only [dMrg, reduceCtorEq] at ez
  rename_i more
  split at ez
  rotate_left
  · cases ez
  rename_i hk2
  rw [Option.map_eq_some_iff] at ez
  obtain ⟨out, ho, rfl⟩ := ez
  rw [Bool.and_eq_true] at hk2
  have hsm2 : kvs.length + more.length ≤ 1000000 := of_decide_eq_true hk2.2
  obtain ⟨b, rfl, nF2, dat2⟩ := r2.dctAt
  obtain ⟨ys, ry, hbs, nd2, hl2, _, hdict2⟩ := dat2.dict X.prog X.w
  have hBp : G2.B pp := e2.sub pp hB1
  have hp2 : H2 pp = some (dO pp ob) := e2.keep pp _ upd_same True.intro (tA.apart pp hB1)
  have rx2 : RX X.K G2 H2 xs kvs := rx1.stay e2.stb
  have hap : xs ≠ [] ∨ Apart X.w ys := by
    cases hx : xs with
    | cons x xs' => exact .inl (by simp)
    | nil =>
      right
      have : kvs = [] := List.length_eq_zero_iff.mp (by rw [← hl, hx]; rfl)
      rw [this] at hk2
      exact ry.apart X.w (by simpa using hk2.1)
  refine ⟨b, ys, rfl, fun z => nF2 (by rw [z]; exact .inl hBp), hbs, hp2, rx2.keysH, ry.keysH, hdict2, hap, by omega, fun ob2 ie4 nd4 => ?_⟩
  have st4 : Stb G2 H2 (ghU G2 pp) (upd H2 pp (dO pp ob2)) := Stb.umk hBp True.intro
  refine k (.ref pp) _ (ghU G2 pp) (Ext.umk eC at0.trk (nh_none hn) True.intro) (t2.umk ie.dct hp2 True.intro) (q2.umk hp2) ?_
  exact (dctAt_of upd_same ie4 hs nd4 (by have := dAll_length _ _ _ ho; omega) ((rx2.stay st4).all (ry.stay st4) ho)).den (not_U t2.apart hBp)
end
end PF
end

/-! ## PfY5 -/
section
/-! PfY5: dict(x), x a list or tuple of pairs; list(d), sorted(d) up to the sort; d.get. -/
set_option linter.all false
set_option autoImplicit false
set_option maxRecDepth 100000
set_option maxHeartbeats 2000000
namespace PF
open PySem L2 PyProof.Rows
open Sem (wp)
/-- a pair: its tuple's address, its key, its key's value, its value -/
structure PE4 where
  T : Addr
  k : NestedKey
  b : V
  y : V
def entOf (e : PE4) (b u : Value) : NestedKey × Value × Value := (e.k, b, u)
inductive EntsOf : List PE4 → Ents → Prop
  | nil : EntsOf [] []
  | cons {e : PE4} {b u : Value} {es : List PE4} {xs : Ents} : RelV e.b b → RelV e.y u → EntsOf es xs → EntsOf (e :: es) (entOf e b u :: xs)
theorem EntsOf.length {es : List PE4} {xs : Ents} (r : EntsOf es xs) : xs.length = es.length := by
  induction r with
  | nil => rfl
  | cons _ _ _ ih => simp [ih]
section
variable {X : Cx}
def rDictL (X : Cx) : List V → Hp → VK → Prop := fun vs H Q => ∃ (l : Addr) (es : List PE4), vs = [.ref l] ∧ (SqL X.K H l (es.map fun e => V.ref e.T) ∨ ∃ o, H l = some (.frz o (.tup (es.map fun e => V.ref e.T))) ∧ o.dict = none) ∧
  (∀ e ∈ es, (∃ o, H e.T = some (.frz o (.tup [e.b, e.y]))) ∧ IsKey H e.k e.b) ∧ es.length ≤ 1000000 ∧
  ∀ (p : Addr) (ob : Obj) (xs : Ents), H p = none → (p == sysModules) = false → EntsOf es xs → IsEs X ob (storedAllN [] xs) → ((storedAllN [] xs).map (·.1)).Nodup → Q (.ref p) (upd H p (dO p ob))
theorem ents_ex {P : Program} {w : World} {H : Hp} {h : Heap} (ok : HOk P w H h) : ∀ (es : List PE4), (∀ e ∈ es, (∃ o, H e.T = some (.frz o (.tup [e.b, e.y]))) ∧ IsKey H e.k e.b) →
    ∃ xs : Ents, EntsOf es xs ∧ ∀ (j : Nat) (e : PE4), es[j]? = some e → ∃ b u, xs[j]? = some (entOf e b u) ∧ RelV e.b b ∧ h.IsTuple e.T #[b, u]
  | [], _ => ⟨[], .nil, fun j e h => by simp at h⟩
  | e :: es, hk => by
    obtain ⟨⟨o, h1⟩, _⟩ := hk e List.mem_cons_self
    obtain ⟨_, _, its, rv, o', e1, e2, n, e3⟩ := ok e.T _ h1
    obtain ⟨xs, r, hx⟩ := ents_ex ok es fun f hf => hk f (List.mem_cons_of_mem _ hf)
    cases rv with
    | cons r1 rr =>
      rename_i b its
      cases rr with
      | cons r2 rr =>
        cases rr
        rename_i u
        refine ⟨entOf e b u :: xs, .cons r1 r2 r, fun j f hj => ?_⟩
        cases j with
        | zero =>
          simp at hj
          subst hj
          exact ⟨b, u, rfl, r1, o', e1, e2, n, by simpa using e3⟩
        | succ j =>
          simp at hj
          obtain ⟨b', u', h1, h2⟩ := hx j f hj
          exact ⟨b', u', by simpa using h1, h2⟩
theorem EntsOf.keys {H : Hp} {es : List PE4} {xs : Ents} (r : EntsOf es xs) : (∀ e ∈ es, IsKey H e.k e.b) → KeysH H xs := by
  induction r with
  | nil => intro _ x hx; cases hx
  | cons r1 _ _ ih =>
    intro hk x hx
    rcases List.mem_cons.mp hx with rfl | hx
    · exact ⟨_, r1, hk _ List.mem_cons_self⟩
    · exact ih (fun e he => hk e (List.mem_cons_of_mem _ he)) x hx
theorem vals_T : ∀ {es : List PE4} {its : List Value}, Vals (es.map fun e => V.ref e.T) its → its = es.map fun e => Value.ref e.T
  | [], its, r => by cases r; rfl
  | e :: es, its, r => by
    cases r with
    | cons r1 r2 => cases r1; rw [vals_T r2]; rfl
theorem cr_dictL (hc : X.calm = true) (hu : X.A.units + 65 < cLine) : CallR X (.type "dict") (rDictL X) := by
  intro pins s σ H vs us Q I r h
  obtain ⟨l, es, rfl, hs, hk, hl, q⟩ := h
  rw [Vals.ref1 r]
  obtain ⟨xs, rx, hx⟩ := ents_ex I.hok es hk
  have hlen := rx.length
  have hx2 : ∀ (j : Nat) (x : NestedKey × Value × Value), xs[j]? = some x → ∃ e, es[j]? = some e ∧ s.heap.IsTuple e.T #[x.2.1, x.2.2] := fun j x hj => by
    have hj' : j < es.length := by
      have := (List.getElem?_eq_some_iff.mp hj).1
      omega
    obtain ⟨b, u, h1, _, h2⟩ := hx j es[j] (List.getElem?_eq_getElem hj')
    rw [hj] at h1
    cases h1
    exact ⟨es[j], List.getElem?_eq_getElem hj', h2⟩
  have hz2 := sizeLine_eq
  have PI : PairItems s.heap (es.map fun e => Value.ref e.T).toArray (fun j => ((es[j]?).map PE4.T).getD l) (xs.map fun x => (x.2.1, x.2.2)) := by
    refine ⟨by simp [hlen], fun j k v hj => ?_⟩
    rw [List.getElem?_map, Option.map_eq_some_iff] at hj
    obtain ⟨x, hj, ex⟩ := hj
    cases ex
    obtain ⟨e, he, ht⟩ := hx2 j x hj
    refine ⟨by simp [he], .inl ?_⟩
    have eT : (Option.map PE4.T es[j]?).getD l = e.T := by rw [he]; rfl
    show s.heap.IsTuple ((Option.map PE4.T es[j]?).getD l) #[x.2.1, x.2.2]
    rw [eT]
    exact ht
  have hkx : KeysH H xs := rx.keys (fun e he => (hk e he).2)
  have hst : ∀ h', (∀ b o, b ≠ s.heap.objs.size → b ∉ ([] : List Addr) → s.heap.get? b = some o → h'.get? b = some o) → ∀ x ∈ xs, NIs h' x.1 x.2.1 := fun h' hk' x hx' => by
    have n := hkx.is I.hok x hx'
    exact ⟨n.is.at (fun b o vs n e d => hk' b o (fun z => by
      rw [z] at e
      exact absurd (Heap.lt_size e) (Nat.lt_irrefl _)) (fun z => by cases z) e), n.deep, n.nt⟩
  have fin : ∀ h' tk, DictN X.w h' s.heap.objs.size (storedAllN [] xs) → (∀ b o, b ∉ ([] : List Addr) → s.heap.get? b = some o → h'.get? b = some o) → EP X pins σ Q (.ref s.heap.objs.size) { s with heap := h', toks := tk } := fun h' tk hd hkp => by
    obtain ⟨ob, g, ie⟩ := es_of hd
    have hn := I.hok.fresh (Nat.le_refl s.heap.objs.size)
    exact ⟨.ref s.heap.objs.size, upd H s.heap.objs.size (dO s.heap.objs.size ob), I.laid (a := s.heap.objs.size) (t' := tk) (fun b o e => hkp b o (fun z => by cases z) e) (Nat.le_refl _) (dO_ok g), rfl, q _ ob xs hn (not_sys I) rx ie hd.nodup⟩
  have hcc : ∀ i key v, PairRel (xs.map fun x => (x.2.1, x.2.2)) i key v → ∃ k, xs[i]? = some (k, key, v) := fun i key v hr => by
    have hr' : (xs.map fun x => (x.2.1, x.2.2))[i]? = some (key, v) := hr
    rw [List.getElem?_map, Option.map_eq_some_iff] at hr'
    obtain ⟨x, hj, ex⟩ := hr'
    cases ex
    exact ⟨x.1, hj⟩
  rcases hs with hs | hs
  · obtain ⟨its, rv, pl, hz⟩ := I.list hs
    have hits := vals_T rv
    subst hits
    have P := PairArg.list (prog := X.prog) (w := X.w) l (es.map fun e => Value.ref e.T).toArray (fun j => ((es[j]?).map PE4.T).getD l) (xs.map fun x => (x.2.1, x.2.2))
    refine call_dict_N (ps := xs) P (I.ok.hd hc) (by omega) ⟨?_, PI⟩ ⟨by simp, hcc⟩ hst (by rw [hz2]; simp; omega) fin
    obtain ⟨o, n, e, c, d, dt⟩ := pl
    exact ⟨o, n, e, c, d, dt⟩
  · obtain ⟨o, hl0, hd0⟩ := hs
    obtain ⟨ho, _, its, rv, o', e1, e2, n, e3⟩ := I.hok l _ hl0
    rw [ho] at e1
    cases e1
    have hits := vals_T rv
    subst hits
    have P := PairArg.tuple (prog := X.prog) (w := X.w) l (es.map fun e => Value.ref e.T).toArray (fun j => ((es[j]?).map PE4.T).getD l) (xs.map fun x => (x.2.1, x.2.2))
    exact call_dict_N (ps := xs) P (I.ok.hd hc) (by omega) ⟨⟨o, n, ho, e2, hd0, e3⟩, PI⟩ ⟨by simp, hcc⟩ hst (by rw [hz2]; simp; omega) fin
end
/-! ### by data -/
theorem pairK_eq {d : D} {p : NestedKey × D × D} (h : pairK d = some p) : d = .tup [p.2.1, p.2.2] ∧ keyD p.2.1 = some p.1 := by
  unfold pairK at h
  split at h
  · rw [Option.map_eq_some_iff] at h
    obtain ⟨k, hk, rfl⟩ := h
    exact ⟨rfl, hk⟩
  · cases h
theorem dFold_cons {acc kvs : List (D × D)} {d : D} {r : List D} (h : dFold acc (d :: r) = some kvs) : ∃ p : NestedKey × D × D, d = .tup [p.2.1, p.2.2] ∧ keyD p.2.1 = some p.1 ∧ dFold (dPut acc p.1 p.2.1 p.2.2) r = some kvs := by
  unfold dFold at h
  split at h
  · rename_i p hp
    obtain ⟨h1, h2⟩ := pairK_eq hp
    exact ⟨p, h1, h2, h⟩
  · cases h
section
variable {K : PySem.W.Frag} {G : Gh} {H : Hp}
/-- the pairs, by data -/
def PRel (K : PySem.W.Frag) (G : Gh) (H : Hp) : List PE4 → List D → Prop
  | [], [] => True
  | e :: es, d :: ds => (∃ a v o, d = .tup [a, v] ∧ keyD a = some e.k ∧ Den K G H e.b a ∧ Den K G H e.y v ∧ H e.T = some (.frz o (.tup [e.b, e.y]))) ∧ PRel K G H es ds
  | _, _ => False
theorem prel_of : ∀ (ds : List D) (us : List V) (acc kvs : List (D × D)), DenL K G H us ds → dFold acc ds = some kvs → ∃ es, PRel K G H es ds ∧ us = es.map fun e => V.ref e.T
  | [], [], _, _, _, _ => ⟨[], True.intro, rfl⟩
  | d :: ds, u :: us, acc, kvs, h, e => by
    obtain ⟨p, rfl, hk, e2⟩ := dFold_cons e
    obtain ⟨es, h1, h2⟩ := prel_of ds us _ _ h.2 e2
    obtain ⟨T, vs, o, rfl, _, g1, _, g2⟩ := h.1
    match vs, g2, g1 with
    | [v1, v2], g2, g1 => exact ⟨⟨T, p.1, v1, v2⟩ :: es, ⟨⟨p.2.1, p.2.2, o, rfl, hk, g2.1, g2.2.1, g1⟩, h1⟩, by rw [h2]; rfl⟩
    | [], g2, _ => exact g2.elim
    | [_], g2, _ => exact g2.2.elim
    | _ :: _ :: _ :: _, g2, _ => exact g2.2.2.elim
  | [], _ :: _, _, _, h, _ => h.elim
  | _ :: _, [], _, _, h, _ => h.elim
theorem PRel.all : ∀ {es : List PE4} {ds : List D}, PRel K G H es ds → ∀ e ∈ es, (∃ o, H e.T = some (.frz o (.tup [e.b, e.y]))) ∧ IsKey H e.k e.b
  | [], [], _, e, he => by cases he
  | f :: es, d :: ds, h, e, he => by
    rcases List.mem_cons.mp he with rfl | he
    · obtain ⟨a, v, o, _, h1, h2, _, h4⟩ := h.1
      exact ⟨⟨o, h4⟩, h2.isKey h1⟩
    · exact PRel.all h.2 e he
  | [], _ :: _, h, _, _ => h.elim
  | _ :: _, [], h, _, _ => h.elim
theorem PRel.length : ∀ {es : List PE4} {ds : List D}, PRel K G H es ds → es.length = ds.length
  | [], [], _ => rfl
  | _ :: es, _ :: ds, h => by simp [PRel.length h.2]
  | [], _ :: _, h => h.elim
  | _ :: _, [], h => h.elim
theorem PRel.stay {G' : Gh} {H' : Hp} (s : Stb G H G' H') (hf : ∀ a o u, H a = some (.frz o u) → H' a = some (.frz o u)) : ∀ {es : List PE4} {ds : List D}, PRel K G H es ds → PRel K G' H' es ds
  | [], [], _ => True.intro
  | e :: es, d :: ds, h => by
    obtain ⟨⟨a, v, o, h1, h2, h3, h4, h5⟩, h6⟩ := h
    exact ⟨⟨a, v, o, h1, h2, Den.stay s _ _ h3, Den.stay s _ _ h4, hf _ _ _ h5⟩, PRel.stay s hf h6⟩
  | [], _ :: _, h => h.elim
  | _ :: _, [], h => h.elim
theorem PRel.rx : ∀ (es : List PE4) (ds : List D) (xs axs : Ents) (acc kvs : List (D × D)), PRel K G H es ds → EntsOf es xs → RX K G H axs acc → dFold acc ds = some kvs → RX K G H (storedAllN axs xs) kvs := by
  intro es
  induction es with
  | nil =>
    intro ds xs axs acc kvs h rx r e
    cases rx
    cases ds with
    | nil =>
      simp only [dFold, Option.some.injEq] at e
      subst e
      exact r
    | cons d ds => exact h.elim
  | cons f es ih =>
    intro ds xs axs acc kvs h rx r e
    cases ds with
    | nil => exact h.elim
    | cons d ds =>
      cases rx with
      | @cons _ b u _ xs2 rb ru rx2 =>
        obtain ⟨⟨a, v, o, h0, h1, h2, h3, _⟩, h5⟩ := h
        obtain ⟨p, e1, hk, e2⟩ := dFold_cons e
        rw [h0] at e1
        simp only [D.tup.injEq, List.cons.injEq, and_true] at e1
        obtain ⟨rfl, rfl⟩ := e1
        rw [h1] at hk
        have hk' := Option.some.inj hk
        rw [← hk'] at e2
        exact ih ds xs2 (storedN axs f.k b u) _ kvs h5 rx2 (r.put h1 rb h2 ru h3) e2
end
theorem dFold_len : ∀ (ds : List D) (acc kvs : List (D × D)), dFold acc ds = some kvs → kvs.length ≤ acc.length + ds.length
  | [], acc, kvs, e => by simp only [dFold, Option.some.injEq] at e; subst e; simp
  | d :: ds, acc, kvs, e => by
    obtain ⟨p, _, _, e2⟩ := dFold_cons e
    have h1 := dFold_len ds _ _ e2
    have h2 := dPut_length acc p.1 p.2.1 p.2.2
    simp
    omega
end PF
end

/-! ## PfS3 -/
section
/-! PfS3: the operations, by data. -/
set_option linter.all false
set_option autoImplicit false
namespace PF
open PySem L2

/-- how one goes on with a value that stands for d -/
abbrev Go (K : PySem.W.Frag) (G : Gh) (H : Hp) (c : Cup) (d : D) (Q : VK) : Prop := ∀ w H' G', Ext G H G' H' → Trk G' H' → CupR G' H' c → Den K G' H' w d → Q w H'
section
variable {K : PySem.W.Frag} {G : Gh} {H : Hp} {c : Cup} {Q : VK}
theorem Go.here {d : D} {v : V} (k : Go K G H c d Q) (t : Trk G H) (q : CupR G H c) (h : Den K G H v d) : Q v H := k v H G (Ext.refl G H) t q h
theorem Go.tup {ds : List D} {vs : List V} (k : Go K G H c (.tup ds) Q) (t : Trk G H) (q : CupR G H c) (h : DenL K G H vs ds) : ∀ p o, H p = none → o.dict = none → Q (.ref p) (upd H p (.frz o (.tup vs))) := fun p o hp hd =>
  k _ _ G (Ext.made hp) (t.made hp) (q.made hp) ⟨p, vs, o, rfl, not_F t q hp, upd_same, hd, h.stay (Ext.made hp).stb⟩
theorem Go.lst {ds : List D} {vs : List V} (k : Go K G H c (.lst ds) Q) (t : Trk G H) (q : CupR G H c) (h : DenL K G H vs ds) : ∀ p, H p = none → Q (.ref p) (upd H p (.lst vs)) := fun p hp =>
  k _ _ G (Ext.made hp) (t.made hp) (q.made hp) ⟨p, vs, rfl, not_F t q hp, upd_same, h.stay (Ext.made hp).stb⟩
end
theorem small_line {n : Nat} (h : small n = true) : n ≤ sizeLine := Nat.le_trans (of_decide_eq_true h) (by decide)

/-! ### new tuples, their object known -/
section
variable {X : Cx} {pins : List (Addr × Obj)} {σ : L2.St} {H : Hp} {s : Shared}
abbrev NewT (H : Hp) (vs : List V) (Q : VK) : Prop := ∀ p o, H p = none → o.dict = none → Q (.ref p) (upd H p (.frz o (.tup vs)))
theorem new_tup {us : List Value} {vs : List V} {Q : VK} {h' : Heap} {tk : Nat} (I : L2.Inv X pins σ H { s with heap := h' }) (r : Vals vs us) (z : vs.length ≤ sizeLine) (q : NewT H vs Q) :
    EP X pins σ Q (.ref h'.objs.size) { s with heap := h'.push { cls := .type "tuple", data := .seq us.toArray }, toks := tk } := by
  have hf : H h'.objs.size = none := I.hok.fresh (Nat.le_refl _)
  have hg : (h'.push { cls := .type "tuple", data := .seq us.toArray }).get? h'.objs.size = some { cls := .type "tuple", data := .seq us.toArray } := Heap.get?_push_size _ rfl
  exact ⟨.ref h'.objs.size, _, I.laid (t' := tk) (o := .frz { cls := .type "tuple", data := .seq us.toArray } (.tup vs)) (fun b u e => Heap.get?_push_of_some _ e) (Nat.le_refl _) ⟨hg, z, us, r, ⟨_, hg, rfl, _, rfl⟩⟩, rfl, q _ _ hf rfl⟩
def tTupF (t : TA) : TE := fun σ H Q => t σ H fun xs H1 => xs.length ≤ sizeLine ∧ NewT H1 xs Q
theorem pe_tupF {es : List Expr} {k : Nat} {pos : Pos} {t : TA} (h : PA X es t) : PE X (.Tuple es k pos) (tTupF t) :=
  ⟨fun pins s σ H Q I hq => PySem.wpAny_Tuple_spliced (thn (h.run pos pins s σ H _ I hq) fun us s1 ⟨xs, H1, I1, r, z, q⟩ => ⟨by rw [← r.length]; exact z, new_tup (tk := s1.toks) I1 r z q⟩)⟩
def rCatF (K : PySem.W.Frag) : R2 := fun x y H Q => ∃ a b xs ys, x = .ref a ∧ y = .ref b ∧ SqT K H a xs ∧ SqT K H b ys ∧ xs.length + ys.length ≤ sizeLine ∧
  (xs = [] → Q (.ref b) H) ∧ (xs ≠ [] → ys = [] → Q (.ref a) H) ∧ (xs ≠ [] → ys ≠ [] → NewT H (xs ++ ys) Q)
theorem op_catF : OpR X (binaryOp .Add) (rCatF X.K) := by
  intro pins s σ H x y v u Q I rx ry ⟨a, b, xs, ys, ex, ey, ha, hb, hz, q0, q1, q2⟩
  subst ex ey
  cases rx
  cases ry
  obtain ⟨its, r1, p1, _⟩ := I.tuple ha
  obtain ⟨its2, r2, p2, _⟩ := I.tuple hb
  have l1 := r1.length
  have l2 := r2.length
  by_cases hx : xs = []
  · subst hx
    cases r1
    exact L2.cat_tup0 p1 p2 ⟨.ref b, H, I, rfl, q0 rfl⟩
  · refine HT.cat_tup p1 p2 (fun z => hx (List.length_eq_zero_iff.mp (by rw [l1, z]; rfl))) (fun z => ?_) (fun z => ?_) (by omega)
    · exact ⟨.ref a, H, I, rfl, q1 hx (List.length_eq_zero_iff.mp (by rw [l2, z]; rfl))⟩
    · exact new_tup (tk := s.toks) I (r1.append r2) (by rw [List.length_append]; exact hz) (q2 hx fun e => z (List.length_eq_zero_iff.mp (by rw [← l2, e]; rfl)))
def rSlF (K : PySem.W.Frag) : V → Option Int → Option Int → Hp → VK → Prop := fun x lo hi H Q => ∃ a xs, x = .ref a ∧ SqT K H a xs ∧
  (HT.sIx xs.length 0 lo = 0 ∧ HT.sIx xs.length xs.length hi = xs.length → Q (.ref a) H) ∧ (¬ (HT.sIx xs.length 0 lo = 0 ∧ HT.sIx xs.length xs.length hi = xs.length) → NewT H (cutV xs lo hi) Q)
theorem sl_tupF : SlR X (rSlF X.K) := by
  intro pins s σ H x v vl vu lo hi sl Q I rx hs pl pu ⟨a, xs, ex, hx, q1, q2⟩
  subst ex
  cases rx
  obtain ⟨its, r, ht, hz⟩ := I.tuple hx
  have hlen : its.toArray.size = xs.length := by rw [List.size_toArray]; exact r.length.symm
  have hl2 := r.length
  refine ⟨"tuple", _, PyProof.Rows.slot_tuple_getitem.lookup, ht.typeIs, ?_⟩
  by_cases hw : HT.sIx xs.length 0 lo = 0 ∧ HT.sIx xs.length xs.length hi = xs.length
  · exact L2.getItem_tuple_whole ht hs pl pu (by rw [hlen]; exact hw) ⟨.ref a, H, I, rfl, q1 hw⟩
  · refine HT.getItem_tuple_cut ht hs pl pu (fun z => hw (by rw [← hlen]; exact z)) ?_ (by omega)
    rw [hlen]
    exact new_tup (tk := s.toks) I ((r.drop _).take _) (Nat.le_trans (cutV_length xs lo hi) hz) (q2 hw)
theorem call_tupF : CallR X (.type "tuple") (fun xs H Q => ∃ p ys, xs = [.ref p] ∧ ((SqL X.K H p ys ∧ NewT H ys Q) ∨ (SqT X.K H p ys ∧ Q (.ref p) H))) := by
  intro pins s σ H xs us Q I r ⟨p, ys, ex, h⟩
  subst ex
  obtain ⟨u, rfl, rx⟩ := vals1 r
  cases rx
  rcases h with ⟨hq, q⟩ | ⟨hq, q⟩
  · obtain ⟨its, r', pl, hz⟩ := I.list hq
    have hlen := r'.length
    refine call_tuple_list pl.isList (fun h' kp => ?_) (by simp only [List.size_toArray] <;> omega)
    exact new_tup (tk := s.toks) (I.kept (t' := s.toks) kp) r' hz q
  · obtain ⟨its, r', pl, hz⟩ := I.tuple hq
    exact call_tuple_same pl ⟨.ref p, H, I, rfl, q⟩
def tTupRgF (te : L2.St → Hp → (Int → Int → Hp → Prop) → Prop) : TE := fun σ H Q => te σ H fun a b H1 => RgOk a b ∧ NewT H1 (rgV a b) Q
theorem pe_tupRgF {e : Expr} {te : L2.St → Hp → (Int → Int → Hp → Prop) → Prop} {p pos : Pos} (hc : X.calm = true) (hg : Gl X "tuple") (hm : X.mg "tuple" = none) (he : PRg X e te) (na : starEach [e] X.env = (false, eval e X.env) :: starEach [] X.env) : PE X (.Call (.Name "tuple" p) [e] [] pos) (tTupRgF te) := by
  refine ⟨fun pins s σ H Q I h => ?_⟩
  refine PyProof.Rows.Call_ (ld_blt I hg hm PyProof.Rows.boot_tuple (PyProof.Rows.callWith_type1 (PyProof.Rows.args_cons (thn (he pins s σ H _ I h) fun x s1 ⟨r, a, b, t, u, v, H1, ex, hr, I1, ok, q⟩ => PyProof.Rows.args_nil ?_) na) na))
  subst ex
  obtain ⟨b1, b2, b3, b4, b5⟩ := ok
  refine call_tuple_range (n := (b - a).toNat) (I1.ok.hd hc) hr (small_one b1 b2 b3 b4) (PyProof.Rows.rangeSize_nat a b) b5 fun h' tk acc hk hi => ?_
  have r2 : Vals (rgV a b) acc.toList := vals_rg hi
  have fin := new_tup (s := { s1 with toks := tk }) (tk := tk) (I1.kept (t' := tk) hk) r2 (by rw [rgV_length, sizeLine_eq]; omega) q
  rw [Array.toArray_toList] at fin
  exact fin
theorem tuple_mulE (l : Addr) (items : Array Value) (n : Nat) (dd : Option Addr) (sl : Array (Option Value)) (x : Int) (u : Tok) (c0 : (decide (x < -(2 ^ 63)) || decide (x ≥ 2 ^ 63)) = false) (c1 : (items.isEmpty || x == 1) = true) :
    Meets (Builtin.«tuple.__mul__» ⟨[.ref l, .int x u], []⟩) (fun _ R s => s.heap.get? l = some { cls := .type "tuple", dict := dd, data := .seq items n, slots := sl } ∧ R (.ok (.ret (Value.ref l))) s) :=
  .of_wp fun prog w A R s h => by
    obtain ⟨hp, g, d, tk, os⟩ := s
    obtain ⟨hl, h⟩ := h
    have f1 := AutoSeq1.idx_int
    wp_walk using wpAny_loadPart' hl
    repeat (first
      | (refine wpAny_ite_false (decide_eq_false (by rw [c0]; exact Bool.false_ne_true)) ?_; wp_walk using wpAny_loadPart' hl)
      | (refine wpAny_ite_true (decide_eq_true (by rw [c1])) ?_; wp_walk using wpAny_loadPart' hl))
    exact ⟨_, rfl, h⟩
def rRepE (K : PySem.W.Frag) : R2 := fun x y H Q => ∃ l k xs, x = .ref l ∧ y = .int k ∧ SqT K H l xs ∧ (xs = [] ∨ k = 1) ∧ 1 ≤ k ∧ k ≤ 1000 ∧ Q (.ref l) H
theorem op_repE : OpR X (binaryOp .Mult) (rRepE X.K) := by
  intro pins s σ H x y v u Q I rx ry ⟨l, k, xs, ex, ey, hT, hz, h1, h2, q⟩
  subst ex ey
  cases rx
  obtain ⟨t, rfl⟩ := ry
  obtain ⟨its, r, ⟨⟨cls, dd, data, sl⟩, ho, hc, n, hd⟩, hs⟩ := I.tuple hT
  simp only at hc hd
  subst hc hd
  have hle : its.length = xs.length := r.length.symm
  have d1 : (decide (k < -(2 ^ 63)) || decide (k ≥ 2 ^ 63)) = false := by
    rw [decide_eq_false (by omega), decide_eq_false (by omega)]; rfl
  have d2 : (its.toArray.isEmpty || k == 1) = true := by
    rcases hz with rfl | rfl
    · have e := List.eq_nil_of_length_eq_zero hle
      subst e
      rfl
    · exact Bool.or_true _
  refine wpAny_binaryOp_repeat_ref (T := "tuple") (U := "int") (by decide) ⟨_, ho, rfl⟩ (fun s' => typeIs_int s' k t) L2.noFill_tuple_mul F.fills_int_mul F.slot_int_rmul L2.repeat_tuple F.slot_int_index.lookup
    (call_meets F.slot_int_rmul (typeIs_int s k t) F.entry_int_rmul (F.args_int_rmul_2 _ _) (L2.int_rmul_tuple k t l its.toArray n dd sl)
      ⟨ho, rfl, ⟨_, ho, rfl⟩, call_meets F.slot_tuple_mul ⟨_, ho, rfl⟩ F.entry_tuple_mul (F.args_tuple_mul_2 _ _) (tuple_mulE l its.toArray n dd sl k t d1 d2) ⟨ho, ?_⟩⟩)
  exact ⟨.ref l, H, I.kept (t' := s.toks) (fun _ _ z => z), rfl, q⟩
def rRepF (K : PySem.W.Frag) : R2 := fun x y H Q => ∃ l k xs, x = .ref l ∧ y = .int k ∧ SqT K H l xs ∧ xs ≠ [] ∧ 2 ≤ k ∧ k ≤ 1000 ∧ xs.length ≤ 1000 ∧ NewT H (List.replicate k.toNat xs).flatten Q
theorem op_repF : OpR X (binaryOp .Mult) (rRepF X.K) := by
  intro pins s σ H x y v u Q I rx ry ⟨l, k, xs, ex, ey, hT, hne, h1, h2, hz, q⟩
  subst ex ey
  cases rx
  obtain ⟨t, rfl⟩ := ry
  obtain ⟨its, r, ⟨⟨cls, dd, data, sl⟩, ho, hc, n, hd⟩, hs⟩ := I.tuple hT
  simp only at hc hd
  subst hc hd
  have hle : its.length = xs.length := r.length.symm
  have hi : its.toArray.isEmpty = false := by
    cases its with
    | nil => exact absurd (List.length_eq_zero_iff.mp hle.symm) hne
    | cons a b => rfl
  have hk : k.toNat * xs.length ≤ 1000000 := Nat.le_trans (Nat.mul_le_mul (show k.toNat ≤ 1000 by omega) hz) (by decide)
  have hkk : ((its.toArray.size : Nat) : Int) * k ≤ 1000000 := by
    have e : ((its.toArray.size : Nat) : Int) * k = ((k.toNat * xs.length : Nat) : Int) := by
      rw [List.size_toArray, hle, Int.natCast_mul, Int.toNat_of_nonneg (by omega), Int.mul_comm]
    rw [e]; omega
  have fl : (List.replicate k.toNat xs).flatten.length ≤ sizeLine := by
    rw [PyProof.Rows.lm_len_rep_flat, sizeLine_eq]; omega
  have fl2 : (List.replicate k.toNat its).flatten.length ≤ sizeLine := by
    rw [PyProof.Rows.lm_len_rep_flat, hle, sizeLine_eq]; omega
  have tm : Builtin.Tuple.tupleTooMany (((its.toArray.size : Nat) : Int) * k) = false := by
    unfold Builtin.Tuple.tupleTooMany
    rw [sizeLine_eq]
    exact decide_eq_false (by omega)
  have d1 : (decide (k < -(2 ^ 63)) || decide (k ≥ 2 ^ 63)) = false := by
    rw [decide_eq_false (by omega), decide_eq_false (by omega)]; rfl
  have d2 : (its.toArray.isEmpty || k == 1) = false := by
    rw [hi, Bool.false_or]; exact beq_eq_false_iff_ne.mpr (by omega)
  have d3 : (decide (k ≤ 0) || its.toArray.isEmpty) = false := by
    rw [hi, Bool.or_false]; exact decide_eq_false (by omega)
  refine wpAny_binaryOp_repeat_ref (T := "tuple") (U := "int") (by decide) ⟨_, ho, rfl⟩ (fun s' => typeIs_int s' k t) L2.noFill_tuple_mul F.fills_int_mul F.slot_int_rmul L2.repeat_tuple F.slot_int_index.lookup
    (call_meets F.slot_int_rmul (typeIs_int s k t) F.entry_int_rmul (F.args_int_rmul_2 _ _) (L2.int_rmul_tuple k t l its.toArray n dd sl)
      ⟨ho, rfl, ⟨_, ho, rfl⟩, call_meets F.slot_tuple_mul ⟨_, ho, rfl⟩ F.entry_tuple_mul (F.args_tuple_mul_2 _ _) (L2.tuple_mulW l its.toArray n dd sl k t d1 d2 d3 (by omega) tm (by rw [L2.size_rep, List.size_toArray]; exact fl2)) ⟨ho, ?_⟩⟩)
  rw [L2.size_rep]
  exact new_tup (tk := s.toks) I (r.rep k.toNat) fl q
end

def aop : Bop → Operator
  | .add => .Add | .sub => .Sub | .mul => .Mult | .fdiv => .FloorDiv | .mod => .Mod | .pow => .Pow
def RdB (X : Cx) (o : Bop) (r : R2) : Prop := ∀ G H c v u x y z (Q : VK), Trk G H → CupR G H c → Bor X.K G H v x → Bor X.K G H u y → opB o x y = some z → Go X.K G H c z Q → r v u H Q
section
variable {X : Cx}
theorem opB_ok (o : Bop) : ∃ r, OpR X (binaryOp (aop o)) r ∧ RdB X o r := by
  cases o with
  | add =>
    refine ⟨_, op_add.or (op_cat.or op_catF), fun G H c v u x y z Q t q hx hy e k => ?_⟩
    cases x <;> cases y <;> simp only [opB, reduceCtorEq] at e
    · rename_i i j
      cases e
      cases show v = .int i from hx
      cases show u = .int j from hy
      exact .inl ⟨i, j, rfl, rfl, k.here t q rfl⟩
    · rename_i xs ys
      split at e
      · rename_i hs
        cases e
        obtain ⟨a, vs, o1, rfl, na, h1, d1, h2⟩ := hx
        obtain ⟨b, us, o2, rfl, nb, g1, d2, g2⟩ := hy
        have hl := h2.length
        have gl := g2.length
        refine .inr (.inr ⟨a, b, vs, us, rfl, rfl, sqT h1, sqT g1, by rw [hl, gl]; exact small_line hs, fun e => ?_, fun _ e => ?_, fun _ _ => k.tup t q (h2.app g2)⟩)
        · subst e
          have : xs = [] := List.length_eq_zero_iff.mp hl.symm
          subst this
          exact k.here t q ⟨b, us, o2, rfl, nb, g1, d2, g2⟩
        · subst e
          have : ys = [] := List.length_eq_zero_iff.mp gl.symm
          subst this
          rw [List.append_nil] at k
          exact k.here t q ⟨a, vs, o1, rfl, na, h1, d1, h2⟩
      · cases e
    · rename_i xs ys
      split at e
      · rename_i hs
        cases e
        obtain ⟨a, vs, rfl, na, h1, h2⟩ := hx
        obtain ⟨b, us, rfl, nb, g1, g2⟩ := hy
        exact .inr (.inl ⟨a, b, vs, us, rfl, rfl, h1, g1, by rw [h2.length, g2.length]; exact small_line hs, k.lst t q (h2.app g2)⟩)
      · cases e
  | sub =>
    refine ⟨_, op_sub, fun G H c v u x y z Q t q hx hy e k => ?_⟩
    cases x <;> cases y <;> simp only [opB, reduceCtorEq] at e
    rename_i i j
    cases e
    cases show v = .int i from hx
    cases show u = .int j from hy
    exact ⟨i, j, rfl, rfl, k.here t q rfl⟩
  | mul =>
    refine ⟨_, op_mul.or (op_rep.or (op_repF.or op_repE)), fun G H c v u x y z Q t q hx hy e k => ?_⟩
    cases x <;> cases y <;> simp only [opB, reduceCtorEq] at e
    · rename_i i j
      split at e
      · rename_i hc
        cases e
        cases show v = .int i from hx
        cases show u = .int j from hy
        exact .inl ⟨i, j, rfl, rfl, hc, k.here t q rfl⟩
      · cases e
    · rename_i xs j
      split at e
      · rename_i hc
        cases e
        obtain ⟨a, vs, o1, rfl, na, h1, d1, h2⟩ := hx
        cases show u = .int j from hy
        by_cases hx : vs = [] ∨ j = 1
        · refine .inr (.inr (.inr ⟨a, j, vs, rfl, rfl, sqT h1, hx, hc.1, hc.2.1, k.here t q ?_⟩))
          rcases hx with hx | hx
          · subst hx
            have e : xs = [] := List.length_eq_zero_iff.mp h2.length.symm
            subst e
            have e2 : (List.replicate j.toNat ([] : List D)).flatten = [] := by simp
            rw [e2]
            exact ⟨a, [], o1, rfl, na, h1, d1, True.intro⟩
          · subst hx
            have e2 : (List.replicate (1 : Int).toNat xs).flatten = xs := by simp
            rw [e2]
            exact ⟨a, vs, o1, rfl, na, h1, d1, h2⟩
        · rw [not_or] at hx
          exact .inr (.inr (.inl ⟨a, j, vs, rfl, rfl, sqT h1, hx.1, by omega, hc.2.1, by rw [h2.length]; exact hc.2.2, k.tup t q (h2.rep _)⟩))
      · cases e
    · rename_i xs j
      split at e
      · rename_i hc
        cases e
        obtain ⟨a, vs, rfl, na, h1, h2⟩ := hx
        cases show u = .int j from hy
        refine .inr (.inl ⟨a, j, vs, rfl, rfl, h1, by omega, by omega, ?_, k.lst t q (h2.rep _)⟩)
        rw [h2.length]
        have hj : j.toNat ≤ 1000 := by omega
        exact Nat.le_trans (Nat.mul_le_mul hc.2.2 hj) (by decide)
      · cases e
  | fdiv =>
    refine ⟨_, op_fdivN, fun G H c v u x y z Q t q hx hy e k => ?_⟩
    cases x <;> cases y <;> simp only [opB, reduceCtorEq] at e
    rename_i i j
    split at e
    · rename_i hc
      cases e
      cases show v = .int i from hx
      cases show u = .int j from hy
      exact ⟨i, j, rfl, rfl, hc, k.here t q rfl⟩
    · cases e
  | mod =>
    refine ⟨_, op_modN, fun G H c v u x y z Q t q hx hy e k => ?_⟩
    cases x <;> cases y <;> simp only [opB, reduceCtorEq] at e
    rename_i i j
    split at e
    · rename_i hc
      cases e
      cases show v = .int i from hx
      cases show u = .int j from hy
      exact ⟨i, j, rfl, rfl, hc, k.here t q rfl⟩
    · cases e
  | pow =>
    refine ⟨_, op_pow, fun G H c v u x y z Q t q hx hy e k => ?_⟩
    cases x <;> cases y <;> simp only [opB, reduceCtorEq] at e
    rename_i i j
    split at e
    · rename_i hc
      cases e
      cases show v = .int i from hx
      cases show u = .int j from hy
      exact ⟨i, j, rfl, rfl, hc, k.here t q rfl⟩
    · cases e

def acop : Cop → CmpOp
  | .eq => .Eq | .ne => .NotEq | .lt => .Lt | .le => .LtE | .gt => .Gt | .ge => .GtE | .is => .Is | .isnot => .IsNot | .in_ => .In | .notin => .NotIn
def RdC (X : Cx) (o : Cop) (r : R2) : Prop := ∀ G H v u x y b (Q : VK), Bor X.K G H v x → Bor X.K G H u y → opC o x y = some b → Q (.bl b) H → r v u H Q
theorem flat_of {G : Gh} {H : Hp} {v : V} {d : D} (h : Bor X.K G H v d) (f : flat d = true) : flatV v = true := by
  cases d <;> simp [flat] at f <;> (have h' := h; simp only [Bor, Den] at h'; subst h'; rfl)
theorem flats_of {G : Gh} {H : Hp} : ∀ {ds : List D} {vs : List V}, DenL X.K G H vs ds → ds.all flat = true → vs.all flatV = true
  | [], [], _, _ => rfl
  | d :: ds, v :: vs, h, f => by
    rw [List.all_cons, Bool.and_eq_true] at f ⊢
    exact ⟨flat_of h.1.bor f.1, flats_of h.2 f.2⟩
  | [], _ :: _, h, _ => h.elim
  | _ :: _, [], h, _ => h.elim
theorem eqV_of {G : Gh} {H : Hp} {v u : V} {x y : D} (hx : Bor X.K G H v x) (hy : Bor X.K G H u y) (fx : flat x = true) (fy : flat y = true) : eqV v u = eqD x y := by
  cases x <;> simp [flat] at fx <;> cases y <;> simp [flat] at fy <;> (have h1 := hx; have h2 := hy; simp only [Bor, Den] at h1 h2; subst h1; subst h2; first | rfl | (simp [eqV, eqD]))
theorem inV_of {G : Gh} {H : Hp} {v : V} {x : D} (hx : Bor X.K G H v x) (fx : flat x = true) : ∀ {ds : List D} {vs : List V}, DenL X.K G H vs ds → ds.all flat = true → inV v vs = isIn x ds
  | [], [], _, _ => rfl
  | d :: ds, u :: vs, h, f => by
    rw [List.all_cons, Bool.and_eq_true] at f
    show (eqV u v || inV v vs) = (eqD d x || isIn x ds)
    rw [eqV_of h.1.bor hx f.1 fx, inV_of hx fx h.2 f.2]
  | [], _ :: _, h, _ => h.elim
  | _ :: _, [], h, _ => h.elim
theorem opC_ok (hu : X.A.units + 65 < cLine) (o : Cop) : ∃ r, OpR X (compareOp (acop o)) r ∧ RdC X o r := by
  cases o with
  | eq =>
    refine ⟨_, op_eqD (by omega), fun G H v u x y b Q hx hy e k => ?_⟩
    have e' : (if (plain x && plain y) = true then some (eqD x y) else none) = some b := e
    split at e'
    · rename_i hp
      rw [Bool.and_eq_true] at hp
      cases e'
      obtain ⟨p, p1, p2, p3⟩ := hx.data hp.1
      obtain ⟨q, q1, q2, q3⟩ := hy.data hp.2
      exact ⟨p, q, p1, q1, p2, q2, by rw [eqv_of x y p q p3 q3]; exact k⟩
    · cases e'
  | ne =>
    refine ⟨_, op_neD (by omega), fun G H v u x y b Q hx hy e k => ?_⟩
    have e' : (if (plain x && plain y) = true then some (!eqD x y) else none) = some b := e
    split at e'
    · rename_i hp
      rw [Bool.and_eq_true] at hp
      cases e'
      obtain ⟨p, p1, p2, p3⟩ := hx.data hp.1
      obtain ⟨q, q1, q2, q3⟩ := hy.data hp.2
      exact ⟨p, q, p1, q1, p2, q2, by rw [eqv_of x y p q p3 q3]; exact k⟩
    · cases e'
  | lt =>
    refine ⟨_, op_lt, fun G H v u x y b Q hx hy e k => ?_⟩
    cases x <;> cases y <;> simp only [opC, reduceCtorEq] at e
    cases e
    cases show v = .int _ from hx
    cases show u = .int _ from hy
    exact ⟨_, _, rfl, rfl, k⟩
  | le =>
    refine ⟨_, op_le, fun G H v u x y b Q hx hy e k => ?_⟩
    cases x <;> cases y <;> simp only [opC, reduceCtorEq] at e
    cases e
    cases show v = .int _ from hx
    cases show u = .int _ from hy
    exact ⟨_, _, rfl, rfl, k⟩
  | gt =>
    refine ⟨_, op_gt, fun G H v u x y b Q hx hy e k => ?_⟩
    cases x <;> cases y <;> simp only [opC, reduceCtorEq] at e
    cases e
    cases show v = .int _ from hx
    cases show u = .int _ from hy
    exact ⟨_, _, rfl, rfl, k⟩
  | ge =>
    refine ⟨_, op_ge, fun G H v u x y b Q hx hy e k => ?_⟩
    cases x <;> cases y <;> simp only [opC, reduceCtorEq] at e
    cases e
    cases show v = .int _ from hx
    cases show u = .int _ from hy
    exact ⟨_, _, rfl, rfl, k⟩
  | is =>
    refine ⟨_, op_isN.or op_isBl, fun G H v u x y b Q hx hy e k => ?_⟩
    cases y <;> simp only [opC, reduceCtorEq] at e
    · cases show u = .non from hy
      refine .inl ⟨rfl, ?_⟩
      cases x <;> simp only [Option.some.injEq] at e <;> subst e
      · cases show v = .non from hx; exact k
      all_goals (have hx' := hx; simp only [Bor, Den] at hx')
      all_goals first
        | (subst hx'; exact k)
        | (obtain ⟨a, rfl, _⟩ := hx'; exact k)
        | (obtain ⟨a, vs, rfl, _⟩ := hx'; exact k)
        | (obtain ⟨a, vs, o1, rfl, _⟩ := hx'; exact k)
        | (obtain ⟨a, o1, es, ep, rfl, _⟩ := hx'; exact k)
        | (obtain ⟨a, rfl, _, _⟩ := hx'; exact k)
        | exact hx'.elim
    · cases x <;> simp only [reduceCtorEq] at e
      cases e
      cases show v = .bl _ from hx
      cases show u = .bl _ from hy
      refine .inr ⟨_, _, rfl, rfl, ?_⟩
      rw [← Bool.beq_eq_decide_eq]
      exact k
  | isnot =>
    refine ⟨_, op_notN.or op_notBl, fun G H v u x y b Q hx hy e k => ?_⟩
    cases y <;> simp only [opC, reduceCtorEq] at e
    · cases show u = .non from hy
      refine .inl ⟨rfl, ?_⟩
      cases x <;> simp only [Option.some.injEq] at e <;> subst e
      · cases show v = .non from hx; exact k
      all_goals (have hx' := hx; simp only [Bor, Den] at hx')
      all_goals first
        | (subst hx'; exact k)
        | (obtain ⟨a, rfl, _⟩ := hx'; exact k)
        | (obtain ⟨a, vs, rfl, _⟩ := hx'; exact k)
        | (obtain ⟨a, vs, o1, rfl, _⟩ := hx'; exact k)
        | (obtain ⟨a, o1, es, ep, rfl, _⟩ := hx'; exact k)
        | (obtain ⟨a, rfl, _, _⟩ := hx'; exact k)
        | exact hx'.elim
    · cases x <;> simp only [reduceCtorEq] at e
      cases e
      cases show v = .bl _ from hx
      cases show u = .bl _ from hy
      refine .inr ⟨_, _, rfl, rfl, ?_⟩
      rw [← Bool.beq_eq_decide_eq]
      exact k
  | in_ =>
    refine ⟨_, ((op_inD hu).or op_in_seq).or (op_inN hu), fun G H v u x y b Q hx hy e k => ?_⟩
    cases y <;> simp only [opC, reduceCtorEq] at e
    · split at e
      · rename_i hp
        rw [Bool.and_eq_true] at hp
        cases e
        obtain ⟨a, vs, o1, rfl, na, h1, d1, h2⟩ := hy
        exact .inl <| .inr ⟨a, vs, rfl, .inr (sqT h1), flat_of hx hp.1, flats_of h2 hp.2, by
          rw [inV_of hx hp.1 h2 hp.2]
          exact k⟩
      · cases e
    · split at e
      · rename_i hp
        rw [Bool.and_eq_true] at hp
        cases e
        obtain ⟨p, p1, p2, p3⟩ := hx.data hp.1
        obtain ⟨q, q1, q2, q3⟩ := hy.data hp.2
        simp only [ofD, Option.map_eq_some_iff] at q3
        obtain ⟨ps, q3, rfl⟩ := q3
        exact .inl <| .inl ⟨p, ps, p1, q1, p2, q2, by rw [any_of _ ps x p q3 p3]; exact k⟩
      · cases e
    · rename_i kvs
      rw [Option.map_eq_some_iff] at e
      obtain ⟨kk, hk, rfl⟩ := e
      obtain ⟨a, rfl, _, dat⟩ := hy
      obtain ⟨xs, r, hs, _, _, _, hd⟩ := dat.dict X.prog X.w
      have hx' : Den X.K G H v x := by cases x <;> first | exact hx | (simp [keyD, PF.keyN] at hk)
      exact .inr ⟨a, kk, xs, rfl, hs, hx'.isKey hk, hd, by rw [(r.at kk).1]; exact k⟩
  | notin =>
    refine ⟨_, ((op_notInD hu).or op_notIn_seq).or (op_notInN hu), fun G H v u x y b Q hx hy e k => ?_⟩
    cases y <;> simp only [opC, reduceCtorEq] at e
    · split at e
      · rename_i hp
        rw [Bool.and_eq_true] at hp
        cases e
        obtain ⟨a, vs, o1, rfl, na, h1, d1, h2⟩ := hy
        exact .inl <| .inr ⟨a, vs, rfl, .inr (sqT h1), flat_of hx hp.1, flats_of h2 hp.2, by
          rw [inV_of hx hp.1 h2 hp.2]
          exact k⟩
      · cases e
    · split at e
      · rename_i hp
        rw [Bool.and_eq_true] at hp
        cases e
        obtain ⟨p, p1, p2, p3⟩ := hx.data hp.1
        obtain ⟨q, q1, q2, q3⟩ := hy.data hp.2
        simp only [ofD, Option.map_eq_some_iff] at q3
        obtain ⟨ps, q3, rfl⟩ := q3
        exact .inl <| .inl ⟨p, ps, p1, q1, p2, q2, by rw [any_of _ ps x p q3 p3]; exact k⟩
      · cases e
    · rename_i kvs
      rw [Option.map_eq_some_iff] at e
      obtain ⟨kk, hk, rfl⟩ := e
      obtain ⟨a, rfl, _, dat⟩ := hy
      obtain ⟨xs, r, hs, _, _, _, hd⟩ := dat.dict X.prog X.w
      have hx' : Den X.K G H v x := by cases x <;> first | exact hx | (simp [keyD, PF.keyN] at hk)
      exact .inr ⟨a, kk, xs, rfl, hs, hx'.isKey hk, hd, by rw [(r.at kk).1]; exact k⟩
end
end PF
end

/-! ## PfS4 -/
section
/-! PfS4: items, slices, built-in functions, by data. -/
set_option linter.all false
set_option autoImplicit false
namespace PF
open PySem L2

theorem place_ixN (n : Nat) (i : Int) : place n i = ixN n i := rfl
theorem item_get {K : PySem.W.Frag} {G : Gh} {H : Hp} {ds : List D} {vs : List V} {i : Int} {d : D} (h : DenL K G H vs ds) (e : item ds i = some d) : ∃ v, atI vs i = some v ∧ Den K G H v d := by
  unfold item at e
  unfold atI
  rw [place_ixN] at e
  rw [h.length]
  cases q : ixN ds.length i with
  | none => rw [q] at e; cases e
  | some j =>
    rw [q] at e
    exact h.get e
section
variable {X : Cx} {W : WX}
def RdI (X : Cx) (r : R2) : Prop := ∀ G H c v u x y z (Q : VK), Trk G H → CupR G H c → Bor X.K G H v x → Den X.K G H u y → opI c x y = some z → Go X.K G H c z Q → r v u H Q
theorem opI_ok (hu : X.A.units + 65 < cLine) : ∃ r, IxR X r ∧ RdI X r := by
  refine ⟨_, ix_seq.or (ix_N hu), fun G H c v u x y z Q t q hx hy e k => ?_⟩
  by_cases isd : ∃ kvs, x = .dct kvs
  · obtain ⟨kvs, rfl⟩ := isd
    have e' : (keyD y).bind (dAt kvs) = some z := e
    rw [Option.bind_eq_some_iff] at e'
    obtain ⟨kk, hk, hz⟩ := e'
    obtain ⟨a, rfl, _, dat⟩ := hx
    obtain ⟨xs, r, hs, _, _, _, hd⟩ := dat.dict X.prog X.w
    obtain ⟨p, vv, e1, e2, e3⟩ := (r.at kk).2 z hz
    exact .inr ⟨a, kk, xs, p, vv, rfl, hy.isKey hk, hd, e1, e2, k.here t q e3⟩
  cases x <;> (try exact absurd ⟨_, rfl⟩ isd) <;> cases y <;> simp only [opI, reduceCtorEq] at e
  · rename_i xs i
    obtain ⟨a, vs, o1, rfl, na, h1, d1, h2⟩ := hx
    cases show u = .int i from hy
    obtain ⟨w, e1, e2⟩ := item_get h2 e
    exact .inl <| .inr (.inl ⟨a, vs, i, w, rfl, rfl, sqT h1, e1, k.here t q e2⟩)
  · rename_i xs i
    obtain ⟨a, vs, rfl, na, h1, h2⟩ := hx
    cases show u = .int i from hy
    obtain ⟨w, e1, e2⟩ := item_get h2 e
    exact .inl <| .inl ⟨a, vs, i, w, rfl, rfl, .of h1, e1, k.here t q e2⟩
  · rename_i i
    obtain ⟨a, rfl, hg⟩ := hx
    cases show u = .int i from hy
    cases c with
    | none => simp at e
    | some p =>
      obtain ⟨m, n⟩ := p
      obtain ⟨b, g1, g2⟩ := q
      have : a = b := by rw [hg] at g1; exact Option.some.inj g1
      subst this
      simp only at e
      split at e
      · rename_i z0
        subst z0
        cases e
        exact .inl <| .inl ⟨a, _, 0, .int m, rfl, rfl, .of g2, rfl, k.here t ⟨a, g1, g2⟩ rfl⟩
      · split at e
        · rename_i z0
          subst z0
          cases e
          exact .inl <| .inl ⟨a, _, 1, .int n, rfl, rfl, .of g2, rfl, k.here t ⟨a, g1, g2⟩ rfl⟩
        · cases e
theorem clip_sIx (n d : Nat) (o : Option Int) : clip n d o = HT.sIx n d o := by
  cases o with
  | none => rfl
  | some v =>
    show (if v < 0 then (v + n).toNat else min v.toNat n) = HT.sIx n d (some v)
    rfl
def RdS (X : Cx) (r : V → Option Int → Option Int → Hp → VK → Prop) : Prop := ∀ G H c v x lo hi z (Q : VK), Trk G H → CupR G H c → Bor X.K G H v x → opS x lo hi = some z → Go X.K G H c z Q → r v lo hi H Q
theorem cut_full {xs : List D} {lo hi : Option Int} (h : clip xs.length 0 lo = 0 ∧ clip xs.length xs.length hi = xs.length) : cut xs lo hi = xs := by
  unfold cut
  rw [h.1, h.2, List.drop_zero, Nat.sub_zero, List.take_length]
theorem opS_ok : ∃ r, SlR X r ∧ RdS X r := by
  refine ⟨_, sl_list.or sl_tupF, fun G H c v x lo hi z Q t q hx e k => ?_⟩
  cases x <;> simp only [opS, reduceCtorEq, Option.some.injEq] at e
  · rename_i xs
    subst e
    obtain ⟨a, vs, o1, rfl, na, h1, d1, h2⟩ := hx
    have hl := h2.length
    refine .inr ⟨a, vs, rfl, sqT h1, fun e => ?_, fun _ => ?_⟩
    · rw [cut_full (by rw [clip_sIx, clip_sIx, ← hl]; exact e)] at k
      exact k.here t q ⟨a, vs, o1, rfl, na, h1, d1, h2⟩
    · refine k.tup t q ?_
      unfold cut cutV
      rw [clip_sIx, clip_sIx, hl]
      exact (h2.drop _).take _
  · rename_i xs
    subst e
    obtain ⟨a, vs, rfl, na, h1, h2⟩ := hx
    refine .inl ⟨a, vs, rfl, .of h1, k.lst t q ?_⟩
    have hl := h2.length
    unfold cut cutV
    rw [clip_sIx, clip_sIx, hl]
    exact (h2.drop _).take _

/-! ### slices with a step -/
def rStep (K : PySem.W.Frag) (Q : VK) (x : V) (o : Option Int) (H : Hp) : Prop := ∃ k a xs, o = some k ∧ x = .ref a ∧ k ≠ 0 ∧ SqL K H a xs ∧ ∀ p, H p = none →
  Q (.ref p) (upd H p (.lst ((sliceRange (sliceBounds none none (some k) xs.length).1 (sliceBounds none none (some k) xs.length).2.1 (sliceBounds none none (some k) xs.length).2.2).filterMap (xs[·]?))))
def tStepL (K : PySem.W.Frag) (te ts : TE) : TE := fun σ H Q => te σ H fun x H1 => ts σ H1 fun y H2 => ∃ k, y = .int k ∧ rStep K Q x (some k) H2
theorem valsPicks {xs : List V} {us : List Value} (r : Vals xs us) : ∀ l : List Nat, Vals (l.filterMap (xs[·]?)) (l.filterMap (us[·]?))
  | [] => .nil
  | i :: l => by
    cases q : xs[i]? with
    | none =>
      rw [List.filterMap_cons_none q, List.filterMap_cons_none (r.none_of q)]
      exact valsPicks r l
    | some x =>
      obtain ⟨u, e, h⟩ := r.get q
      rw [List.filterMap_cons_some q, List.filterMap_cons_some e]
      exact .cons h (valsPicks r l)
theorem DenL.picks {K : PySem.W.Frag} {G : Gh} {H : Hp} {ds : List D} {vs : List V} (h : DenL K G H vs ds) : ∀ l : List Nat, DenL K G H (l.filterMap (vs[·]?)) (l.filterMap (ds[·]?))
  | [] => True.intro
  | i :: l => by
    cases q : ds[i]? with
    | none =>
      have q2 : vs[i]? = none := by
        rw [List.getElem?_eq_none_iff] at q ⊢
        rw [h.length]; exact q
      rw [List.filterMap_cons_none q, List.filterMap_cons_none q2]
      exact DenL.picks h l
    | some x =>
      obtain ⟨u, e, hu⟩ := h.get q
      rw [List.filterMap_cons_some q, List.filterMap_cons_some e]
      exact ⟨hu, DenL.picks h l⟩
theorem pe_stepL {e st : Expr} {te ts : TE} {p3 pos : Pos} (he : PE X e te) (hs : PE X st ts) : PE X (.Subscript e (.Slice none none (some st) p3) pos) (tStepL X.K te ts) := by
  refine ⟨fun pins s σ H Q I h => ?_⟩
  refine PyProof.Rows.Subscript_ (thn (he.run pins s σ H _ I h) fun v s1 ⟨x, H1, I1, r1, q1⟩ => ?_)
  have hst : PO X (some st) (tPart ts) := po_some hs
  refine wpAny_Slice (thn (po_none.run pins s1 σ H1 (fun o H2 => o = none ∧ H2 = H1) I1 ⟨rfl, rfl⟩) fun vl s2 ⟨l, H2, I2, pl, el, e2⟩ => ?_)
  subst el e2
  refine thn (po_none.run pins s2 σ H2 (fun o H3 => o = none ∧ H3 = H2) I2 ⟨rfl, rfl⟩) fun vu s3 ⟨u, H3, I3, pu, eu, e3⟩ => ?_
  subst eu e3
  refine thn (hst.run pins s3 σ H3 (rStep X.K Q x) I3 q1) fun vs s4 ⟨o, H4, I4, ps, k, a, xs, eo, ex, hk, hx, q⟩ => ?_
  subst eo ex
  cases r1
  have I5 : Inv X pins σ H4 { s4 with heap := s4.heap.push { cls := .type "slice", data := .fields #[vl, vu, vs] } } := I4.kept (t' := s4.toks) fun b ob q => Heap.get?_push_of_some _ q
  obtain ⟨its, r, ht, hz⟩ := I5.list hx
  have hlen := r.length
  show wpAny (model X.prog X.w) X.A (PyProof.Rows.subscriptTail e (.Slice none none (some st) p3) (.ref a) (.ref s4.heap.objs.size)) (EP X pins σ Q) X.xe { s4 with heap := s4.heap.push { cls := .type "slice", data := .fields #[vl, vu, vs] } }
  refine PyProof.Rows.tail_any (ops := [.ref a, .ref s4.heap.objs.size]) ht.isList.typeIs (PySem.slot_list_getitem.lookup) ?_ (by with_unfolding_all rfl)
  refine wpAny_getItem_list_slice ht.isList (Heap.IsSliceOf.new _ vl vu vs) pl pu ps (by simpa using hk) ?_ (by rw [List.size_toArray]; omega)
  refine ⟨.ref _, _, I5.laid (t' := s4.toks) (o := .lst ((sliceRange (sliceBounds none none (some k) xs.length).1 (sliceBounds none none (some k) xs.length).2.1 (sliceBounds none none (some k) xs.length).2.2).filterMap (xs[·]?))) (fun b ob q => Heap.get?_push_of_some _ q) (Nat.le_refl _) ?_, rfl, q _ (I5.hok.fresh (Nat.le_refl _))⟩
  refine ⟨?_, _, 0, valsPicks r _, ?_⟩
  · rw [hlen]
    have hz2 := slicePick_size_le its.toArray none none (some k)
    have e2 := (valsPicks r (sliceRange (sliceBounds none none (some k) xs.length).1 (sliceBounds none none (some k) xs.length).2.1 (sliceBounds none none (some k) xs.length).2.2)).length
    rw [hlen] at e2
    rw [e2]
    unfold slicePick at hz2
    simp only [List.size_toArray, List.getElem?_toArray] at hz2
    omega
  · rw [hlen]
    unfold slicePick
    simp only [List.size_toArray, List.getElem?_toArray]
    exact Heap.get?_push_size _ rfl
end
end PF
end

/-! ## PfS4a -/
section
/-! PfS4a: sorted over a list of tuples, some of which may be empty. -/
set_option linter.all false
set_option autoImplicit false
set_option maxHeartbeats 1000000
namespace PF
open PySem PySem.W PySem.Calls PySem.SeqAt PyProof.Rows MeetsSeq MeetsSeq2 MeetsSeq3 SeqRoads2
section
variable {prog : Program} {w : World} {A : Around} {E : Value → Shared → Prop} {s : Shared}
theorem call_tuple_lt' {Q : Value → Shared → Prop} {l b : Addr} {items items2 : Array Value} {e r : Nat → Bool} (hl : s.heap.IsTuple l items) (hb : s.heap.IsTuple b items2)
    (he : ∀ j (h1 : j < items.size) (h2 : j < items2.size), EqAt A.in1 s items[j] items2[j] (e j)) (hr : ∀ j (h1 : j < items.size) (h2 : j < items2.size), e j = false → SeqAt.RcLt A.in1 s items[j] items2[j] (r j))
    (h : Q (.bool (SeqAt.firstLt e r (decide (items.size < items2.size)) (List.range (min items.size items2.size)))) s) : wpAny (model prog w) A (call (.builtin "tuple.__lt__") [.ref l, .ref b]) Q E s := by
  obtain ⟨⟨cls, dd, data, sl⟩, ho, hc, n, hd⟩ := id hl
  obtain ⟨⟨cls2, dd2, data2, sl2⟩, ho2, hc2, n2, hd2⟩ := id hb
  simp only at hc hd hc2 hd2
  subst hc hd hc2 hd2
  exact call_meets F.slot_tuple_lt ⟨_, ho, rfl⟩ F.entry_tuple_lt (F.args_tuple_lt_2 _ _) (SeqAt.tuple_ltAt l b items items2 n n2 dd dd2 sl sl2 e r) ⟨ho, ho2, he, hr, h⟩
theorem tupLt {a b : Value} {xs ys : List PyData} {as bs : List Addr} {Q : Bool → Shared → Prop} (ra : Reads s.heap a (.tuple xs) as) (rb : Reads s.heap b (.tuple ys) bs) (hal : alikeAll xs ys = true) (hu : A.units + min (PyData.depth (.tuple xs)) (PyData.depth (.tuple ys)) < cLine)
    (hq : Q (dataLt (.tuple xs) (.tuple ys)) s) : wpAny (model prog w) A (oneLt' true a b) Q E s := by
  cases ra with
  | @tuple l o vs n _ as₁ h1 h2 h3 h4 =>
    cases rb with
    | @tuple l' o' vs' n' _ bs₁ k1 k2 k3 k4 =>
      have n1 : vs.size = xs.length := by simpa using ReadsAll.length _ _ _ h4
      have n2 : vs'.size = ys.length := by simpa using ReadsAll.length _ _ _ k4
      rw [dataLt_tuple, ← firstLt_toks xs ys hal, ← n1, ← n2] at hq
      rw [oneLt'_eq]
      simp only [if_true]
      refine wpAny_bind (wpAny_cRoomFor (room_here hu) ?_)
      refine wpAny_bind (wpAny_callSpecialIfBound?_slot (T := "tuple") ⟨_, h1, h2⟩ F.slot_tuple_lt (call_tuple_lt' (e := pairEq xs ys) (r := fun j => dataLt (xs.getD j .none) (ys.getD j .none)) ⟨_, h1, h2, _, h3⟩ ⟨_, k1, k2, _, k3⟩ (fun j j1 j2 => ?_) (fun j j1 j2 hj => ?_) ?_))
      · have := eqAt_alikeAll xs ys A.in1 s vs.toList vs'.toList _ _ h4 k4 hal (room_in hu) j (by simpa using j1) (by simpa using j2)
        simpa using this
      · have := rcLt_alikeAll xs ys A.in1 s vs.toList vs'.toList _ _ h4 k4 hal (room_in hu) j (by simpa using j1) (by simpa using j2) hj
        simpa using this
      · exact wpAny_truthy_bool hq
def neT : PyData → Bool
  | .tuple (_ :: _) => true
  | _ => false
theorem firsts_wp {h : Heap} : ∀ {vs : List Value} {ds : List PyData}, EachIs (fun v d => ∃ as, Reads h v d as) vs ds → (∀ d, d ∈ ds → ∃ xs, d = .tuple xs) →
    ∃ os : List (Option Value), os.map Option.isSome = ds.map neT ∧ ∀ (M : Model) (A : Around) (E : Value → Shared → Prop) (s : Shared) (Q : List (Option Value) → Shared → Prop), s.heap = h → Q os s → wpAny M A (vs.mapM firstOfTuple') Q E s
  | _, _, .nil, _ => ⟨[], rfl, fun M A E s Q _ q => by rw [List.mapM_nil]; exact wpAny_pure q⟩
  | v :: vs, d :: ds, .cons ⟨as, r⟩ t, ht => by
    obtain ⟨os, o1, o2⟩ := firsts_wp t fun d hd => ht d (List.mem_cons_of_mem _ hd)
    obtain ⟨xs, rfl⟩ := ht d (List.mem_cons_self ..)
    cases r with
    | @tuple a o its n _ _ ho hc hd hr =>
      refine ⟨its[0]? :: os, ?_, fun M A E s Q hs q => ?_⟩
      · rw [List.map_cons, List.map_cons, o1]
        congr 1
        have hl := SeqAt.ReadsAll.length _ _ _ hr
        cases xs with
        | nil =>
          have : its.size = 0 := by simpa using hl
          rw [Array.getElem?_eq_none (by omega)]
          rfl
        | cons x r =>
          have : its.size = r.length + 1 := by simpa using hl
          rw [Array.getElem?_eq_getElem (by omega)]
          rfl
      · subst hs
        rw [List.mapM_cons]
        refine wpAny_bind ?_
        rw [kas_first_eq]
        refine wpAny_bind (Looks.here (show Looks M s.heap (typeOf (.ref a)) o.cls from (Looks.ld ho).andThen .now) ?_)
        rw [hc, if_neg (by first | decide | simp)]
        refine wpAny_bind (listItems_at ho hd (wpAny_pure ?_))
        exact wpAny_bind (o2 M A E s (fun bs s' => wpAny M A (pure (its[0]? :: bs)) Q E s') rfl (wpAny_pure q))
theorem tup_kind {vs : List Value} {ds : List PyData} (e : EachIs (fun v d => ∃ as, Reads s.heap v d as) vs ds) (ht : ∀ d, d ∈ ds → ∃ xs, d = .tuple xs) (hb : ¬ ∀ d, d ∈ ds → ∃ x r, d = .tuple (x :: r)) :
    ∃ kd, (kd = oneType' ∨ kd = general') ∧ ∀ (M : Model) (A : Around) (E : Value → Shared → Prop) (Q : SortKind → Shared → Prop), Q kd s → wpAny M A (keyKind' vs.toArray) Q E s := by
  obtain ⟨os, o1, o2⟩ := firsts_wp e ht
  have hne : (os.toArray.all fun x => x.isSome) = false := by
    refine Bool.eq_false_iff.mpr fun z => hb fun d hd => ?_
    simp only [List.all_toArray, List.all_eq_true] at z
    have z2 : ∀ b, b ∈ os.map Option.isSome → b = true := fun b hb => by
      obtain ⟨o, ho, rfl⟩ := List.mem_map.mp hb
      exact z o ho
    rw [o1] at z2
    have z3 := z2 _ (List.mem_map.mpr ⟨d, hd, rfl⟩)
    obtain ⟨xs, rfl⟩ := ht d hd
    cases xs with
    | nil => cases z3
    | cons x r => exact ⟨x, r, rfl⟩
  by_cases h0 : (os.toArray[0]?.bind id).isSome = true
  · refine ⟨general', .inr rfl, fun M A E Q q => ?_⟩
    rw [keyKind'_eq, List.mapM_toArray, map_eq_pure_bind]
    refine wpAny_bind (wpAny_bind (o2 M A E s _ rfl (wpAny_pure ?_)))
    rw [if_neg (by rw [hne]; exact Bool.false_ne_true), if_pos h0]
    exact wpAny_pure q
  · refine ⟨oneType', .inl rfl, fun M A E Q q => ?_⟩
    rw [keyKind'_eq, List.mapM_toArray, map_eq_pure_bind]
    refine wpAny_bind (wpAny_bind (o2 M A E s _ rfl (wpAny_pure ?_)))
    rw [if_neg (by rw [hne]; exact Bool.false_ne_true), if_neg h0]
    rw [oneTypeOnly'_eq, List.mapM_toArray, map_eq_pure_bind]
    refine wpAny_bind (wpAny_bind (wpAny_bind (kas_mapM (r := Value.type "tuple") _ (fun v hv Q' hq => ?_) (wpAny_pure ?_))))
    · obtain ⟨d, hd, as, r⟩ := e.left v hv
      obtain ⟨xs, rfl⟩ := ht d hd
      exact (looks_reads r).here hq
    · have hall : ((List.map (fun _ => Value.type "tuple") vs).toArray.all fun x => x == Value.type "tuple") = true := by
        simp only [List.all_toArray, List.all_map, List.all_eq_true]
        intro _ _
        exact beq_self_eq_true _
      cases vs with
      | nil =>
        cases e
        exact absurd (fun d hd => absurd hd (by simp)) hb
      | cons v vs =>
        have h0 : (List.map (fun _ => Value.type "tuple") (v :: vs)).toArray[0]? = some (Value.type "tuple") := by simp
        rw [h0]
        simp only [hall, if_true]
        exact wpAny_pure (wpAny_pure q)
theorem sortsTup {vs : List Value} {ds : List PyData} (e : EachIs (fun v d => ∃ as, Reads s.heap v d as) vs ds) (hal : AllAlike ds) (ht : ∀ d, d ∈ ds → ∃ xs, d = .tuple xs) (hu : ∀ d, d ∈ ds → A.units + d.depth < cLine) : SortsAt prog w A s (dataKind s.heap ds) vs := by
  by_cases hb : ∀ d, d ∈ ds → ∃ x r, d = .tuple (x :: r)
  · exact SortsAt.data e hal (.inl hb) hu
  · have room : ∀ {d d' : PyData}, d ∈ ds → A.units + min d.depth d'.depth < cLine := fun {d d'} hd => Nat.lt_of_le_of_lt (Nat.add_le_add_left (Nat.min_le_left _ _) _) (hu d hd)
    obtain ⟨kd, k1, k2⟩ := tup_kind e ht hb
    refine ⟨fun v hv => ?_, kd, fun E x y a b Q ha hb hq => ?_, fun _ E Q q => k2 _ _ E Q q⟩
    · obtain ⟨d, hd, as, r⟩ := e.left v hv
      exact ⟨_, dataKind_some hal hd r⟩
    · obtain ⟨d, as, hd, ra, rfl⟩ := dataKind_inv ha
      obtain ⟨d', as', hd', rb, rfl⟩ := dataKind_inv hb
      have hdd := hal d hd d' hd'
      have hroom := room (d' := d') hd
      obtain ⟨xs, rfl⟩ := ht d hd
      obtain ⟨ys, rfl⟩ := ht d' hd'
      rcases k1 with rfl | rfl
      · rw [keyLt'_oneType]
        exact tupLt ra rb (by simpa [alike] using hdd) hroom hq
      · show wpAny _ _ (oneLt' false x y) _ _ _
        exact oneLt_alike (fun z => Bool.noConfusion z) ra rb hdd (by intro z; cases z) hroom hq
end
end PF
end

/-! ## PfS4b -/
section
/-! PfS4b: sorted, by insertion. -/
set_option linter.all false
set_option autoImplicit false
set_option maxHeartbeats 1000000
namespace PF
open PySem L2
section
variable {α : Type} {le : α → α → Bool}
theorem ins_perm (x : α) : ∀ xs : List α, (ins le x xs).Perm (x :: xs)
  | [] => List.Perm.refl _
  | y :: ys => by
    unfold ins
    split
    · exact List.Perm.refl _
    · exact ((ins_perm x ys).cons y).trans (List.Perm.swap x y ys)
theorem isort_perm : ∀ xs : List α, (isort le xs).Perm xs
  | [] => List.Perm.refl _
  | x :: xs => (ins_perm x _).trans ((isort_perm xs).cons x)
theorem ins_sorted (tot : ∀ a b, le a b = true ∨ le b a = true) (tr : ∀ a b c, le a b = true → le b c = true → le a c = true) (x : α) : ∀ xs : List α, xs.Pairwise (fun a b => le a b = true) → (ins le x xs).Pairwise fun a b => le a b = true
  | [], _ => by simp [ins]
  | y :: ys, h => by
    unfold ins
    have h1 := List.pairwise_cons.mp h
    split
    · rename_i e
      refine List.pairwise_cons.mpr ⟨fun z hz => ?_, h⟩
      rcases List.mem_cons.mp hz with rfl | hz
      · exact e
      · exact tr _ _ _ e (h1.1 z hz)
    · rename_i e
      refine List.pairwise_cons.mpr ⟨fun z hz => ?_, ins_sorted tot tr x ys h1.2⟩
      rcases List.mem_cons.mp ((ins_perm x ys).subset hz) with rfl | hz
      · exact (tot y z).resolve_right e
      · exact h1.1 z hz
theorem isort_sorted (tot : ∀ a b, le a b = true ∨ le b a = true) (tr : ∀ a b c, le a b = true → le b c = true → le a c = true) : ∀ xs : List α, (isort le xs).Pairwise fun a b => le a b = true
  | [] => List.Pairwise.nil
  | x :: xs => ins_sorted tot tr x _ (isort_sorted tot tr xs)
theorem isort_of (tot : ∀ a b, le a b = true ∨ le b a = true) (tr : ∀ a b c, le a b = true → le b c = true → le a c = true) (as : ∀ a b, le a b = true → le b a = true → a = b) {xs ys : List α} (h1 : ys.Perm xs) (h2 : ys.Pairwise fun a b => le a b = true) : isort le xs = ys :=
  ((isort_perm xs).trans h1.symm).eq_of_pairwise (fun a b _ _ h h' => as a b h h') (isort_sorted tot tr xs) h2
end
theorem lexLe_total : ∀ a b : List Int, lexLe a b = true ∨ lexLe b a = true
  | [], _ => .inl rfl
  | _ :: _, [] => .inr rfl
  | x :: xs, y :: ys => by
    unfold lexLe
    by_cases e : x = y
    · subst e
      simp only [if_true]
      exact lexLe_total xs ys
    · rw [if_neg e, if_neg (fun z => e z.symm)]
      simp only [decide_eq_true_eq]
      omega
theorem lexLe_antisymm : ∀ a b : List Int, lexLe a b = true → lexLe b a = true → a = b
  | [], [], _, _ => rfl
  | [], _ :: _, _, h => by simp [lexLe] at h
  | _ :: _, [], h, _ => by simp [lexLe] at h
  | x :: xs, y :: ys, h1, h2 => by
    unfold lexLe at h1 h2
    by_cases e : x = y
    · subst e
      simp only [if_true] at h1 h2
      rw [lexLe_antisymm xs ys h1 h2]
    · rw [if_neg e] at h1
      rw [if_neg (fun z => e z.symm)] at h2
      simp only [decide_eq_true_eq] at h1 h2
      omega
theorem lexLe_trans : ∀ a b c : List Int, lexLe a b = true → lexLe b c = true → lexLe a c = true
  | [], _, _, _, _ => rfl
  | _ :: _, [], _, h, _ => by simp [lexLe] at h
  | _ :: _, _ :: _, [], _, h => by simp [lexLe] at h
  | x :: xs, y :: ys, z :: zs, h1, h2 => by
    unfold lexLe at h1 h2 ⊢
    by_cases e : x = y
    · subst e
      simp only [if_true] at h1
      by_cases e2 : x = z
      · subst e2
        simp only [if_true] at h2 ⊢
        exact lexLe_trans xs ys zs h1 h2
      · rw [if_neg e2] at h2 ⊢
        exact h2
    · rw [if_neg e] at h1
      simp only [decide_eq_true_eq] at h1
      by_cases e2 : y = z
      · subst e2
        rw [if_neg e]
        simp only [decide_eq_true_eq]
        exact h1
      · rw [if_neg e2] at h2
        simp only [decide_eq_true_eq] at h2
        rw [if_neg (by omega)]
        simp only [decide_eq_true_eq]
        omega
theorem lexLe_iff : ∀ a b : List Int, lexLe a b = decide (a ≤ b)
  | [], b => by simp [lexLe]
  | _ :: _, [] => by simp [lexLe]
  | x :: xs, y :: ys => by
    unfold lexLe
    rw [lexLe_iff xs ys]
    by_cases e : x = y
    · subst e
      simp [List.cons_le_cons_iff]
    · rw [if_neg e]
      simp [List.cons_le_cons_iff, e]
/-- the datum of a tuple of ints -/
def encT (b : V × List Int) : PyData := .tuple (b.2.map .int)
theorem le_encT : PySem.W.dataLe false encT = fun p q => lexLe p.2 q.2 := by
  have h := PySem.W.dataLe_rows (β := V × List Int) (fun b => b.2)
  funext p q
  rw [lexLe_iff]
  have h2 := congrFun (congrFun h p) q
  rw [← h2]
  rfl
section
variable {X : Cx}
def rSortedT (K : PySem.W.Frag) : List V → Hp → VK → Prop := fun vs H Q => ∃ (a : Addr) (bs : List (V × List Int)), vs = [.ref a] ∧ SqL K H a (bs.map (·.1)) ∧ (∀ b, b ∈ bs → Dp K H b.1 (encT b)) ∧
  ∀ p, H p = none → Q (.ref p) (upd H p (.lst ((bs.mergeSort fun p q => lexLe p.2 q.2).map (·.1))))
theorem cr_sortedT (hu : X.A.units + 65 < cLine) : CallR X (.builtin "sorted") (rSortedT X.K) := by
  intro pins s σ H vs us Q I r h
  obtain ⟨a, bs, rfl, hs, hd, q⟩ := h
  obtain ⟨its, rv, hl, hz⟩ := I.list hs
  rw [Vals.ref1 r]
  have e : ∀ {bs : List (V × List Int)} {its : List Value}, Vals (bs.map (·.1)) its → PySem.W.EachIs (fun v (b : V × List Int) => RelV b.1 v) its bs := by
    intro bs
    induction bs with
    | nil => intro its r; cases r; exact .nil
    | cons b bs ih =>
      intro its r
      cases r with
      | cons r1 r2 => exact .cons r1 (ih r2)
  have e1 := e rv
  have er : PySem.W.EachIs (fun v (b : V × List Int) => ∃ as, Reads s.heap v (encT b) as) its bs := (PySem.W.each_mem e1).mono fun v b hb => Dp.reads I _ _ _ (hd b hb.2) hb.1
  have er' : PySem.W.EachIs (fun v b => ∃ as, Reads (PySem.W.sortingHeap (PySem.W.copyHeap s.heap its) (s.heap.objs.size + 1) its) v (encT b) as) its bs := er.mono fun _ _ ⟨as, r⟩ => ⟨as, PyProof.Rows.Reads.keeps (fun _ _ => PySem.W.sorting_copy_old) r⟩
  have hal : PySem.W.AllAlike (bs.map encT) := PySem.W.AllAlike.of fun b b' => by
    show PySem.W.alike (.tuple _) (.tuple _) = true
    simp only [PySem.W.alike]
    exact PySem.W.alike_ints _ _
  refine PySem.W.sorted_vals hl.isList (sortsTup (s := { s with heap := PySem.W.sortingHeap (PySem.W.copyHeap s.heap its) (s.heap.objs.size + 1) its }) (PySem.W.each_map (R := fun v d => ∃ as, Reads (PySem.W.sortingHeap (PySem.W.copyHeap s.heap its) (s.heap.objs.size + 1) its) v d as) encT er') hal (fun d hd => ?_) fun d hd => ?_) (by rw [← rv.length]; exact hz) ?_
  · obtain ⟨b, _, rfl⟩ := List.mem_map.mp hd
    exact ⟨_, rfl⟩
  · obtain ⟨b, _, rfl⟩ := List.mem_map.mp hd
    have : (encT b).depth = 1 := by
      show PyData.depth (.tuple _) = 1
      simp only [PyData.depth, PySem.W.depth_ints]
    rw [this]
    show X.A.units + 1 + 1 + 1 < cLine
    omega
  · have so := PySem.W.sortVals_data (R := fun v (b : V × List Int) => RelV b.1 v) false e1 er' hal
    rw [le_encT] at so
    have v : ∀ {bs : List (V × List Int)} {its : List Value}, PySem.W.EachIs (fun v (b : V × List Int) => RelV b.1 v) its bs → Vals (bs.map (·.1)) its := by
      intro bs its e
      induction e with
      | nil => exact .nil
      | cons h _ ih => exact .cons h ih
    generalize PySem.W.sortVals (PySem.W.dataKind (PySem.W.sortingHeap (PySem.W.copyHeap s.heap its) (s.heap.objs.size + 1) its) (bs.map encT)) false its its = out at so ⊢
    obtain ⟨ep, he'⟩ := PyProof.Rows.sortedAll_at s.heap its out.toArray
    have hlen : ((bs.mergeSort fun p q => lexLe p.2 q.2).map (·.1)).length ≤ sizeLine := by
      rw [List.length_map, (List.mergeSort_perm _ _).length_eq]
      rw [List.length_map] at hz
      exact hz
    exact ⟨.ref _, upd H (s.heap.objs.size + 1) (.lst ((bs.mergeSort fun p q => lexLe p.2 q.2).map (·.1))), I.laid (t' := s.toks) (fun _ _ => PyProof.Rows.sortedAll_old) (Nat.le_succ _) ⟨hlen, out, ep, v so, he'⟩, rfl, q _ (I.hok.fresh (Nat.le_succ _))⟩
end
end PF
end

/-! ## PfS4c -/
section
/-! PfS4c: sorted over pairs of an int and a tuple of ints. -/
set_option linter.all false
set_option autoImplicit false
set_option maxHeartbeats 1000000
namespace PF
open PySem L2
theorem pairLe_total (a b : Int × List Int) : pairLe a b = true ∨ pairLe b a = true := by
  unfold pairLe
  by_cases e : a.1 = b.1
  · rw [if_pos e, if_pos e.symm]; exact lexLe_total _ _
  · rw [if_neg e, if_neg (fun z => e z.symm)]
    simp only [decide_eq_true_eq]
    omega
theorem pairLe_antisymm (a b : Int × List Int) (h1 : pairLe a b = true) (h2 : pairLe b a = true) : a = b := by
  unfold pairLe at h1 h2
  by_cases e : a.1 = b.1
  · rw [if_pos e] at h1
    rw [if_pos e.symm] at h2
    exact Prod.ext e (lexLe_antisymm _ _ h1 h2)
  · rw [if_neg e] at h1
    rw [if_neg (fun z => e z.symm)] at h2
    simp only [decide_eq_true_eq] at h1 h2
    omega
theorem pairLe_trans (a b c : Int × List Int) (h1 : pairLe a b = true) (h2 : pairLe b c = true) : pairLe a c = true := by
  unfold pairLe at h1 h2 ⊢
  by_cases e : a.1 = b.1
  · rw [if_pos e] at h1
    by_cases e2 : b.1 = c.1
    · rw [if_pos e2] at h2
      rw [if_pos (e.trans e2)]
      exact lexLe_trans _ _ _ h1 h2
    · rw [if_neg e2] at h2
      rw [if_neg (fun z => e2 (e.symm.trans z)), e]
      exact h2
  · rw [if_neg e] at h1
    simp only [decide_eq_true_eq] at h1
    by_cases e2 : b.1 = c.1
    · rw [if_neg (fun z => e (z.trans e2.symm))]
      simp only [decide_eq_true_eq]
      omega
    · rw [if_neg e2] at h2
      simp only [decide_eq_true_eq] at h2
      rw [if_neg (by omega)]
      simp only [decide_eq_true_eq]
      omega
/-- the datum of a pair -/
def encP (b : V × (Int × List Int)) : PyData := .tuple [.int b.2.1, .tuple (b.2.2.map .int)]
theorem le_encP : PySem.W.dataLe false encP = fun p q => pairLe p.2 q.2 := by
  funext p q
  show (!PySem.W.dataLt (.tuple [.int q.2.1, .tuple (q.2.2.map .int)]) (.tuple [.int p.2.1, .tuple (p.2.2.map .int)])) = pairLe p.2 q.2
  have al : PySem.W.alike (.tuple (q.2.2.map .int)) (.tuple (p.2.2.map .int)) = true := by
    simp only [PySem.W.alike]
    exact PySem.W.alike_ints _ _
  rw [PySem.W.dataLt_pair (by simp [PySem.W.alike]) al, PySem.W.dataLt_int]
  have e1 : PyData.eqv (.int q.2.1) (.int p.2.1) = decide (q.2.1 = p.2.1) := by
    simp [PyData.eqv, Bool.beq_eq_decide_eq]
  have e2 : (!PySem.W.dataLt (.tuple (q.2.2.map .int)) (.tuple (p.2.2.map .int))) = lexLe p.2.2 q.2.2 := by
    have := congrFun (congrFun le_encT (.non, p.2.2)) (.non, q.2.2)
    exact this
  have e3 : ∀ xs ys : List Int, PyData.eqvAll (xs.map .int) (ys.map .int) = decide (xs = ys) := by
    intro xs
    induction xs with
    | nil => intro ys; cases ys <;> simp [PyData.eqvAll]
    | cons x xs ih =>
      intro ys
      cases ys with
      | nil => simp [PyData.eqvAll]
      | cons y ys =>
        simp only [List.map_cons, PyData.eqvAll, ih ys, PyData.eqv]
        by_cases h1 : x = y <;> by_cases h2 : xs = ys <;> simp [h1, h2]
  have e4 : PyData.eqv (.tuple (q.2.2.map .int)) (.tuple (p.2.2.map .int)) = decide (q.2.2 = p.2.2) := by
    simp only [PyData.eqv]
    exact e3 _ _
  rw [e1, e4]
  unfold pairLe
  by_cases h1 : q.2.1 = p.2.1
  · rw [if_pos (decide_eq_true h1), if_pos h1.symm]
    by_cases h2 : q.2.2 = p.2.2
    · rw [if_pos (decide_eq_true h2), h2]
      have := lexLe_total p.2.2 p.2.2
      simp at this
      rw [this]
      rfl
    · rw [if_neg (by simpa using h2)]
      exact e2
  · rw [if_neg (by simpa using h1), if_neg (fun z => h1 z.symm)]
    by_cases h3 : q.2.1 < p.2.1
    · simp [h3]; omega
    · simp [h3]; omega
section
variable {X : Cx}
def rSortedP (K : PySem.W.Frag) : List V → Hp → VK → Prop := fun vs H Q => ∃ (a : Addr) (bs : List (V × (Int × List Int))), vs = [.ref a] ∧ SqL K H a (bs.map (·.1)) ∧ (∀ b, b ∈ bs → Dp K H b.1 (encP b)) ∧
  ∀ p, H p = none → Q (.ref p) (upd H p (.lst ((bs.mergeSort fun p q => pairLe p.2 q.2).map (·.1))))
theorem cr_sortedP (hu : X.A.units + 65 < cLine) : CallR X (.builtin "sorted") (rSortedP X.K) := by
  intro pins s σ H vs us Q I r h
  obtain ⟨a, bs, rfl, hs, hd, q⟩ := h
  obtain ⟨its, rv, hl, hz⟩ := I.list hs
  rw [Vals.ref1 r]
  have e : ∀ {bs : List (V × (Int × List Int))} {its : List Value}, Vals (bs.map (·.1)) its → PySem.W.EachIs (fun v (b : V × (Int × List Int)) => RelV b.1 v) its bs := by
    intro bs
    induction bs with
    | nil => intro its r; cases r; exact .nil
    | cons b bs ih =>
      intro its r
      cases r with
      | cons r1 r2 => exact .cons r1 (ih r2)
  have e1 := e rv
  have er : PySem.W.EachIs (fun v (b : V × (Int × List Int)) => ∃ as, Reads s.heap v (encP b) as) its bs := (PySem.W.each_mem e1).mono fun v b hb => Dp.reads I _ _ _ (hd b hb.2) hb.1
  have er' : PySem.W.EachIs (fun v b => ∃ as, Reads (PySem.W.sortingHeap (PySem.W.copyHeap s.heap its) (s.heap.objs.size + 1) its) v (encP b) as) its bs := er.mono fun _ _ ⟨as, r⟩ => ⟨as, PyProof.Rows.Reads.keeps (fun _ _ => PySem.W.sorting_copy_old) r⟩
  have hal : PySem.W.AllAlike (bs.map encP) := PySem.W.AllAlike.of fun b b' => by
    show PySem.W.alike (.tuple _) (.tuple _) = true
    simp only [PySem.W.alike, PySem.W.alikeAll, Bool.true_and, Bool.and_true]
    exact PySem.W.alike_ints _ _
  refine PySem.W.sorted_vals hl.isList (sortsTup (s := { s with heap := PySem.W.sortingHeap (PySem.W.copyHeap s.heap its) (s.heap.objs.size + 1) its }) (PySem.W.each_map (R := fun v d => ∃ as, Reads (PySem.W.sortingHeap (PySem.W.copyHeap s.heap its) (s.heap.objs.size + 1) its) v d as) encP er') hal (fun d hd => ?_) fun d hd => ?_) (by rw [← rv.length]; exact hz) ?_
  · obtain ⟨b, _, rfl⟩ := List.mem_map.mp hd
    exact ⟨_, rfl⟩
  · obtain ⟨b, _, rfl⟩ := List.mem_map.mp hd
    have : (encP b).depth = 2 := by
      show PyData.depth (.tuple _) = 2
      simp [PyData.depth, PyData.depthAll, PySem.W.depth_ints]
    rw [this]
    show X.A.units + 1 + 1 + 2 < cLine
    omega
  · have so := PySem.W.sortVals_data (R := fun v (b : V × (Int × List Int)) => RelV b.1 v) false e1 er' hal
    rw [le_encP] at so
    have v : ∀ {bs : List (V × (Int × List Int))} {its : List Value}, PySem.W.EachIs (fun v (b : V × (Int × List Int)) => RelV b.1 v) its bs → Vals (bs.map (·.1)) its := by
      intro bs its e
      induction e with
      | nil => exact .nil
      | cons h _ ih => exact .cons h ih
    generalize PySem.W.sortVals (PySem.W.dataKind (PySem.W.sortingHeap (PySem.W.copyHeap s.heap its) (s.heap.objs.size + 1) its) (bs.map encP)) false its its = out at so ⊢
    obtain ⟨ep, he'⟩ := PyProof.Rows.sortedAll_at s.heap its out.toArray
    have hlen : ((bs.mergeSort fun p q => pairLe p.2 q.2).map (·.1)).length ≤ sizeLine := by
      rw [List.length_map, (List.mergeSort_perm _ _).length_eq]
      rw [List.length_map] at hz
      exact hz
    exact ⟨.ref _, upd H (s.heap.objs.size + 1) (.lst ((bs.mergeSort fun p q => pairLe p.2 q.2).map (·.1))), I.laid (t' := s.toks) (fun _ _ => PyProof.Rows.sortedAll_old) (Nat.le_succ _) ⟨hlen, out, ep, v so, he'⟩, rfl, q _ (I.hok.fresh (Nat.le_succ _))⟩
end
end PF
end

/-! ## PfS4d -/
section
/-! PfS4d: sorted over nested tuples of ints; over the keys of a dict. -/
set_option linter.all false
set_option autoImplicit false
set_option maxHeartbeats 1000000
namespace PF
open PySem L2
mutual
/-- the datum -/
def encG : D → PyData
  | .int i => .int i
  | .tup xs => .tuple (encGs xs)
  | _ => .int 0
def encGs : List D → List PyData
  | [] => []
  | x :: xs => encG x :: encGs xs
end
mutual
theorem ofD_G : ∀ (d : D) (n : Nat), nestG d n = true → ofD d = some (encG d) ∧ (encG d).depth ≤ n
  | .int i, n, _ => ⟨rfl, Nat.zero_le _⟩
  | .tup xs, 0, h => by simp [nestG] at h
  | .tup xs, n + 1, h => by
    simp only [nestG] at h
    obtain ⟨h1, h2⟩ := ofDs_G xs n h
    refine ⟨?_, ?_⟩
    · simp only [ofD, h1, encG, Option.map_some]
    · simp only [encG, PyData.depth]; omega
  | .non, _, h => by simp [nestG] at h
  | .bl _, _, h => by simp [nestG] at h
  | .str _, _, h => by simp [nestG] at h
  | .lst _, _, h => by simp [nestG] at h
  | .dct _, _, h => by simp [nestG] at h
  | .set _, _, h => by simp [nestG] at h
  | .cup, _, h => by simp [nestG] at h
  | .scr _, _, h => by simp [nestG] at h
  | .exc _, _, h => by simp [nestG] at h
theorem ofDs_G : ∀ (ds : List D) (n : Nat), nestGs ds n = true → ofDs ds = some (encGs ds) ∧ PyData.depthAll (encGs ds) ≤ n
  | [], n, _ => ⟨rfl, by simp [encGs, PyData.depthAll]⟩
  | d :: ds, n, h => by
    simp only [nestGs, Bool.and_eq_true] at h
    obtain ⟨h1, h2⟩ := ofD_G d n h.1
    obtain ⟨h3, h4⟩ := ofDs_G ds n h.2
    refine ⟨by simp only [ofDs, h1, h3, encGs], ?_⟩
    simp only [encGs, PyData.depthAll]
    omega
end
mutual
theorem plain_G : ∀ (d : D) (n : Nat), nestG d n = true → plainN d n = true
  | .int i, n, _ => by cases n <;> rfl
  | .tup xs, 0, h => by simp [nestG] at h
  | .tup xs, n + 1, h => by
    simp only [nestG] at h
    simp only [plainN]
    exact plains_G xs n h
  | .non, _, h => by simp [nestG] at h
  | .bl _, _, h => by simp [nestG] at h
  | .str _, _, h => by simp [nestG] at h
  | .lst _, _, h => by simp [nestG] at h
  | .dct _, _, h => by simp [nestG] at h
  | .set _, _, h => by simp [nestG] at h
  | .cup, _, h => by simp [nestG] at h
  | .scr _, _, h => by simp [nestG] at h
  | .exc _, _, h => by simp [nestG] at h
theorem plains_G : ∀ (ds : List D) (n : Nat), nestGs ds n = true → plainsN ds n = true
  | [], n, _ => by cases n <;> rfl
  | d :: ds, n, h => by
    simp only [nestGs, Bool.and_eq_true] at h
    have h1 := plain_G d n h.1
    have h2 := plains_G ds n h.2
    cases n <;> simp [plainsN, h1, h2]
end
mutual
theorem toks_G : ∀ d : D, PySem.W.keyToks (encG d) = (tokG d).map Sum.inl
  | .int i => rfl
  | .tup xs => by simp only [encG, PySem.W.keyToks, tokG]; exact toksAll_G xs
  | .non => rfl
  | .bl _ => rfl
  | .str _ => rfl
  | .lst _ => rfl
  | .dct _ => rfl
  | .set _ => rfl
  | .cup => rfl
  | .scr _ => rfl
  | .exc _ => rfl
theorem toksAll_G : ∀ ds : List D, PySem.W.keyToksAll (encGs ds) = (tokGs ds).map Sum.inl
  | [] => rfl
  | d :: ds => by
    simp only [encGs, PySem.W.keyToksAll, tokGs, toks_G d, toksAll_G ds, List.map_cons, List.map_append]
end
mutual
theorem alike_G : ∀ a b : D, alikeG a b = true → PySem.W.alike (encG a) (encG b) = true
  | .int _, b, h => by cases b <;> simp [alikeG] at h; rfl
  | .tup xs, b, h => by
    cases b <;> simp only [alikeG, Bool.false_eq_true] at h
    simp only [encG, PySem.W.alike]
    exact alikes_G _ _ h
  | .non, b, h => by cases b <;> simp [alikeG] at h
  | .bl _, b, h => by cases b <;> simp [alikeG] at h
  | .str _, b, h => by cases b <;> simp [alikeG] at h
  | .lst _, b, h => by cases b <;> simp [alikeG] at h
  | .dct _, b, h => by cases b <;> simp [alikeG] at h
  | .set _, b, h => by cases b <;> simp [alikeG] at h
  | .cup, b, h => by cases b <;> simp [alikeG] at h
  | .scr _, b, h => by cases b <;> simp [alikeG] at h
  | .exc _, b, h => by cases b <;> simp [alikeG] at h
theorem alikes_G : ∀ a b : List D, alikeGs a b = true → PySem.W.alikeAll (encGs a) (encGs b) = true
  | [], b, h => by simp only [encGs]; cases encGs b <;> rfl
  | x :: xs, [], h => by simp [encGs, PySem.W.alikeAll]
  | x :: xs, y :: ys, h => by
    simp only [alikeGs, Bool.and_eq_true] at h
    simp only [encGs, PySem.W.alikeAll, Bool.and_eq_true]
    exact ⟨alike_G x y h.1, alikes_G xs ys h.2⟩
end
mutual
/-- such are told by their signs, whatever stands behind -/
theorem tok_inj : ∀ (a b : D) (n m : Nat) (l k : List Int), nestG a n = true → nestG b m = true → alikeG a b = true → tokG a ++ l = tokG b ++ k → a = b ∧ l = k
  | .int i, b, n, m, l, k, h1, h2, h, e => by
    cases b <;> simp [alikeG] at h
    simp only [tokG, List.cons_append, List.nil_append, List.cons.injEq] at e
    exact ⟨by rw [e.1], e.2⟩
  | .tup xs, b, n, m, l, k, h1, h2, h, e => by
    cases b <;> simp only [alikeG, Bool.false_eq_true] at h
    cases n <;> simp only [nestG, Bool.false_eq_true] at h1
    cases m <;> simp only [nestG, Bool.false_eq_true] at h2
    simp only [tokG] at e
    obtain ⟨e1, e2⟩ := toks_inj xs _ _ _ l k h1 h2 h e
    exact ⟨by rw [e1], e2⟩
  | .non, b, n, m, l, k, h1, _, _, _ => by simp [nestG] at h1
  | .bl _, b, n, m, l, k, h1, _, _, _ => by simp [nestG] at h1
  | .str _, b, n, m, l, k, h1, _, _, _ => by simp [nestG] at h1
  | .lst _, b, n, m, l, k, h1, _, _, _ => by simp [nestG] at h1
  | .dct _, b, n, m, l, k, h1, _, _, _ => by simp [nestG] at h1
  | .set _, b, n, m, l, k, h1, _, _, _ => by simp [nestG] at h1
  | .cup, b, n, m, l, k, h1, _, _, _ => by simp [nestG] at h1
  | .scr _, b, n, m, l, k, h1, _, _, _ => by simp [nestG] at h1
  | .exc _, b, n, m, l, k, h1, _, _, _ => by simp [nestG] at h1
theorem toks_inj : ∀ (a b : List D) (n m : Nat) (l k : List Int), nestGs a n = true → nestGs b m = true → alikeGs a b = true → tokGs a ++ l = tokGs b ++ k → a = b ∧ l = k
  | [], [], n, m, l, k, _, _, _, e => by
    simp only [tokGs, List.cons_append, List.nil_append, List.cons.injEq] at e
    exact ⟨rfl, e.2⟩
  | [], y :: ys, n, m, l, k, _, _, _, e => by simp [tokGs] at e
  | x :: xs, [], n, m, l, k, _, _, _, e => by simp [tokGs] at e
  | x :: xs, y :: ys, n, m, l, k, h1, h2, h, e => by
    simp only [nestGs, Bool.and_eq_true] at h1 h2
    simp only [alikeGs, Bool.and_eq_true] at h
    simp only [tokGs, List.cons_append, List.append_assoc, List.cons.injEq, true_and] at e
    obtain ⟨rfl, e2⟩ := tok_inj x y n m _ _ h1.1 h2.1 h.1 e
    obtain ⟨rfl, e3⟩ := toks_inj xs ys n m l k h1.2 h2.2 h.2 e2
    exact ⟨rfl, e3⟩
end
theorem leG_total (a b : D) : leG a b = true ∨ leG b a = true := lexLe_total _ _
theorem leG_trans (a b c : D) (h1 : leG a b = true) (h2 : leG b c = true) : leG a c = true := lexLe_trans _ _ _ h1 h2
theorem lexLt_inl : ∀ a b : List Int, PyProof.Rows.lexLt PyProof.Rows.itemOrd (a.map Sum.inl) (b.map Sum.inl) = !lexLe b a
  | [], [] => by simp [PyProof.Rows.lexLt, lexLe]
  | [], _ :: _ => by simp [PyProof.Rows.lexLt, lexLe]
  | _ :: _, [] => by simp [PyProof.Rows.lexLt, lexLe]
  | x :: xs, y :: ys => by
    rw [List.map_cons, List.map_cons]
    by_cases e : x = y
    · subst e
      rw [PyProof.Rows.lex_self (O := PyProof.Rows.itemOrd), lexLt_inl xs ys]
      simp [lexLe]
    · have e2 : (Sum.inl x : Int ⊕ List Nat) ≠ Sum.inl y := fun z => e (Sum.inl.inj z)
      rw [PySem.W.lex_atom e2, PySem.W.lex_one]
      show decide (x < y) = _
      unfold lexLe
      rw [if_neg (fun z => e z.symm)]
      by_cases h : x < y
      · have : ¬ y < x := by omega
        simp [h, this]
      · have : y < x := by omega
        simp [h, this]
theorem le_encG : PySem.W.dataLe (β := V × D) false (fun b => encG b.2) = fun p q => leG p.2 q.2 := by
  funext p q
  show (!PyProof.Rows.lexLt PyProof.Rows.itemOrd (PySem.W.keyToks (encG q.2)) (PySem.W.keyToks (encG p.2))) = _
  rw [toks_G, toks_G, lexLt_inl]
  simp [leG]
section
variable {X : Cx}
def rSortedG (K : PySem.W.Frag) : List V → Hp → VK → Prop := fun vs H Q => ∃ (a : Addr) (bs : List (V × D)), vs = [.ref a] ∧ SqL K H a (bs.map (·.1)) ∧ (∀ b, b ∈ bs → Dp K H b.1 (encG b.2) ∧ isTupK b.2 = true ∧ nestG b.2 18 = true ∧ ∀ b', b' ∈ bs → alikeG b.2 b'.2 = true) ∧
  ∀ p, H p = none → Q (.ref p) (upd H p (.lst ((bs.mergeSort fun p q => leG p.2 q.2).map (·.1))))
theorem each_v {β : Type} : ∀ {bs : List (V × β)} {its : List Value}, Vals (bs.map (·.1)) its → PySem.W.EachIs (fun v (b : V × β) => RelV b.1 v) its bs
  | [], its, r => by cases r; exact .nil
  | b :: bs, its, r => by
    cases r with
    | cons r1 r2 => exact .cons r1 (each_v r2)
theorem v_each {β : Type} {bs : List (V × β)} {its : List Value} (e : PySem.W.EachIs (fun v (b : V × β) => RelV b.1 v) its bs) : Vals (bs.map (·.1)) its := by
  induction e with
  | nil => exact .nil
  | cons h _ ih => exact .cons h ih
/-- what the sort asks, of nested tuples that stand in another heap too -/
theorem sortsG_at {h' : Heap} {A : Around} {its : List Value} {bs : List (V × D)} {s : Shared} (hu : A.units + 60 < cLine) (er : PySem.W.EachIs (fun v (b : V × D) => ∃ as, Reads s.heap v (encG b.2) as) its bs) (hb : ∀ b, b ∈ bs → isTupK b.2 = true ∧ nestG b.2 18 = true ∧ ∀ b', b' ∈ bs → alikeG b.2 b'.2 = true) :
    PySem.W.SortsAt X.prog X.w A s (PySem.W.dataKind s.heap (bs.map fun b => encG b.2)) its ∧ PySem.W.AllAlike (bs.map fun b => encG b.2) := by
  have hal : PySem.W.AllAlike (bs.map fun b => encG b.2) := fun d hd d' hd' => by
    obtain ⟨b, hb1, rfl⟩ := List.mem_map.mp hd
    obtain ⟨b', hb2, rfl⟩ := List.mem_map.mp hd'
    exact alike_G _ _ ((hb b hb1).2.2 b' hb2)
  refine ⟨sortsTup (PySem.W.each_map (R := fun v d => ∃ as, Reads s.heap v d as) (fun b : V × D => encG b.2) er) hal (fun d hd => ?_) fun d hd => ?_, hal⟩
  · obtain ⟨b, hb1, rfl⟩ := List.mem_map.mp hd
    have h1 := (hb b hb1).1
    cases e : b.2 <;> rw [e] at h1 <;> simp [isTupK] at h1
    exact ⟨_, rfl⟩
  · obtain ⟨b, hb1, rfl⟩ := List.mem_map.mp hd
    have h1 := (ofD_G b.2 18 (hb b hb1).2.1).2
    omega
theorem cr_sortedG (hu : X.A.units + 65 < cLine) : CallR X (.builtin "sorted") (rSortedG X.K) := by
  intro pins s σ H vs us Q I r h
  obtain ⟨a, bs, rfl, hs, hd, q⟩ := h
  obtain ⟨its, rv, hl, hz⟩ := I.list hs
  rw [Vals.ref1 r]
  have e1 := each_v rv
  have er : PySem.W.EachIs (fun v (b : V × D) => ∃ as, Reads s.heap v (encG b.2) as) its bs := (PySem.W.each_mem e1).mono fun v b hb => Dp.reads I _ _ _ (hd b hb.2).1 hb.1
  have er' : PySem.W.EachIs (fun v b => ∃ as, Reads (PySem.W.sortingHeap (PySem.W.copyHeap s.heap its) (s.heap.objs.size + 1) its) v (encG b.2) as) its bs := er.mono fun _ _ ⟨as, r⟩ => ⟨as, PyProof.Rows.Reads.keeps (fun _ _ => PySem.W.sorting_copy_old) r⟩
  obtain ⟨sa, hal⟩ := sortsG_at (X := X) (h' := s.heap) (A := X.A.in1.in1) (s := { s with heap := PySem.W.sortingHeap (PySem.W.copyHeap s.heap its) (s.heap.objs.size + 1) its }) (by show X.A.units + 1 + 1 + 60 < cLine; omega) er' (fun b hb => (hd b hb).2)
  refine PySem.W.sorted_vals hl.isList sa (by rw [← rv.length]; exact hz) ?_
  have so := PySem.W.sortVals_data (R := fun v (b : V × D) => RelV b.1 v) (enc := fun b => encG b.2) false e1 er' hal
  rw [le_encG] at so
  generalize PySem.W.sortVals (PySem.W.dataKind (PySem.W.sortingHeap (PySem.W.copyHeap s.heap its) (s.heap.objs.size + 1) its) (bs.map fun b => encG b.2)) false its its = out at so ⊢
  obtain ⟨ep, he'⟩ := PyProof.Rows.sortedAll_at s.heap its out.toArray
  have hlen : ((bs.mergeSort fun p q => leG p.2 q.2).map (·.1)).length ≤ sizeLine := by
    rw [List.length_map, (List.mergeSort_perm _ _).length_eq]
    rw [List.length_map] at hz
    exact hz
  exact ⟨.ref _, upd H (s.heap.objs.size + 1) (.lst ((bs.mergeSort fun p q => leG p.2 q.2).map (·.1))), I.laid (t' := s.toks) (fun _ _ => PyProof.Rows.sortedAll_old) (Nat.le_succ _) ⟨hlen, out, ep, v_each so, he'⟩, rfl, q _ (I.hok.fresh (Nat.le_succ _))⟩
end
end PF
end

/-! ## PfS4e -/
section
/-! PfS4e: list(d), sorted(d), list(d.values()): what a dict's keys and values give. -/
set_option linter.all false
set_option autoImplicit false
set_option maxHeartbeats 1000000
set_option maxRecDepth 100000
namespace PF
open PySem PySem.W PySem.Calls PyProof.Rows PyProof.V PySem.Spec L2
open Sem (wp)
section
variable {prog : Program} {w : World} {A : Around} {E : Value → Shared → Prop} {s : Shared} {T : String} {r d : Addr} {n : Nat} {P : Nat → Value → Prop} {OK : Heap → Prop}
theorem collect_src {R : List Value → Shared → Prop} (K : KdlSrc prog w T r d n P OK) (hh : A.handled = none) (ok : OK s.heap) (hn : n ≤ sizeLine)
    (h : ∀ (h' : Heap) (tk : Nat) (vs : List Value), (∀ b o, s.heap.get? b = some o → h'.get? b = some o) → s.heap.objs.size < h'.objs.size → vs.length = n → (∀ j v, vs[j]? = some v → P j v) → R vs { s with heap := h', toks := tk }) :
    wpAny (model prog w) A (collect (.ref r)) R E s := by
  have hlt := K.there _ ok
  unfold collect
  refine wpAny_bind (wpAny_runValue (codeAny_builtin entry_proto_collect' ?_))
  rw [Around.under_plainId PySem.F.plain_proto_collect _]
  show wpAny _ A.in1 (newList [] >>= fun l => again (.builtin "list.__iadd__" ⟨[l, .ref r], []⟩)) _ _ s
  refine wpAny_bind (wpAny_newObj_type ?_)
  refine wpAny_pure ⟨plainId_quiet PySem.F.plain_list_iadd _, codeAny_builtin entry_list_iadd' ?_⟩
  rw [Around.under_plainId PySem.F.plain_list_iadd _]
  have hS₁ : (s.heap.push { cls := .type "list", data := .seq ([] : List Value).toArray }).get? s.heap.objs.size = some { cls := .type "list", data := .seq #[] } := Heap.get?_push_size _ rfl
  show wpAny _ A.in1 (Builtin.List.listExtendWith (.ref s.heap.objs.size) (.ref r) (.ref s.heap.objs.size)) _ _ _
  have key := kdl_extend (A := A) (s := { s with heap := s.heap.push { cls := .type "list", data := .seq ([] : List Value).toArray } }) K
    (R := fun (q : Result) (s' : Shared) => ∃ (h' : Heap) (tk : Nat) (acc' : Array Value) (c' : Nat), q = .ok (.ret (.ref s.heap.objs.size)) ∧ s' = { s with heap := h', toks := tk } ∧
      (∀ b o, s.heap.get? b = some o → h'.get? b = some o) ∧ h'.get? s.heap.objs.size = some { cls := .type "list", dict := none, data := .seq acc' c', slots := #[] } ∧ ItemsOf P acc' n)
    hh (K.keep _ _ ok fun b _ o e => Heap.get?_push_of_some _ e) s.heap.objs.size (Nat.ne_of_gt hlt.1) (Nat.ne_of_gt hlt.2) (.ref s.heap.objs.size) 0 hS₁
    (fun h' tk acc' c' hk hS' hacc => ⟨h', tk, acc', c', rfl, rfl, fun b o e => hk b o (Nat.ne_of_lt (Heap.lt_size e)) (Heap.get?_push_of_some _ e), hS', hacc⟩) hn
  refine wpAny_mono key (fun fin s' x => ?_) fun e s' x => ?_
  · have fin2 : ∀ {q : Result} {s' : Shared} {h' : Heap} {tk : Nat} {acc' : Array Value} {c' : Nat}, s' = { s with heap := h', toks := tk } → (∀ b o, s.heap.get? b = some o → h'.get? b = some o) → h'.get? s.heap.objs.size = some { cls := .type "list", dict := none, data := .seq acc' c', slots := #[] } → ItemsOf P acc' n → R acc'.toList s' := by
      intro q s' h' tk acc' c' e hk hS' hacc
      rw [e]
      exact h h' tk acc'.toList hk (Heap.lt_size hS') (by rw [Array.length_toList]; exact hacc.1) (fun j v hj => hacc.2 j v (by rw [← Array.getElem?_toList]; exact hj))
    cases fin with
    | done f =>
      obtain ⟨h', tk, acc', c', e, e2, hk, hS', hacc⟩ := x
      cases e
      subst e2
      show wpAny _ A (load s.heap.objs.size >>= _) _ _ _
      refine wpAny_bind (wpAny_load hS' ?_)
      exact wpAny_pure (fin2 (q := .ok (.ret .none)) rfl hk hS' hacc)
    | again c₁ =>
      refine ⟨x.1, codeAny_mono x.2 fun q s₂ y => ?_⟩
      obtain ⟨h', tk, acc', c', rfl, rfl, hk, hS', hacc⟩ := y
      show wpAny _ A (load s.heap.objs.size >>= _) _ _ _
      refine wpAny_bind (wpAny_load hS' ?_)
      exact wpAny_pure (fin2 (q := .ok (.ret .none)) rfl hk hS' hacc)
  · obtain ⟨_, _, _, _, e', _⟩ := x
    cases e'
theorem sorted_src {Q : Value → Shared → Prop} (K : KdlSrc prog w T r d n P OK) (hh : A.handled = none) (ok : OK s.heap) (hn : n ≤ sizeLine)
    (body : ∀ (h1 : Heap) (tk : Nat) (vs : List Value), (∀ b o, s.heap.get? b = some o → h1.get? b = some o) → s.heap.objs.size < h1.objs.size → vs.length = n → (∀ j v, vs[j]? = some v → P j v) →
      ∀ E' : Value → Shared → Prop, wpAny (model prog w) A.in1.in1 (Builtin.«list.sort» ⟨[.ref h1.objs.size], []⟩) (fun f s' => f = .done (.ret .none) ∧ Q (.ref h1.objs.size) s') E' { s with heap := h1.push (PyProof.Rows.seqObj "list" vs.toArray 0), toks := tk }) :
    wpAny (model prog w) A (call (.builtin "sorted") [.ref r]) Q E s := by
  refine Calls.call_function_entry PyProof.Rows.kind_sorted PyProof.Rows.plain_sorted PyProof.Rows.entry_sorted (PyProof.Rows.args_sorted1 _) ?_
  unfold Builtin.«sorted»
  refine wpAny_bind (m := checkCount "sorted" 1 1 _) (wpAny_pure ?_)
  refine wpAny_bind (collect_src (A := A.in1) K hh ok hn fun h1 tk vs hk hlt hl hv => ?_)
  refine wpAny_bind (wpAny_newList ?_ (by rw [hl]; exact hn))
  have hg : (h1.push (PyProof.Rows.seqObj "list" vs.toArray 0)).get? h1.objs.size = some (PyProof.Rows.seqObj "list" vs.toArray 0) := Heap.get?_push_size _ rfl
  refine wpAny_bind (wpAny_holding (wpAny_call_entry_kw PyProof.Rows.slot_list_sort ⟨_, hg, rfl⟩ PyProof.Rows.entry_list_sort ?body (PyProof.Rows.args_list_sort _)))
  case body =>
    show wpAny (model prog w) A.in1.in1 (Builtin.«list.sort» ⟨[.ref h1.objs.size], []⟩) _ _ _
    refine wpAny_mono (body h1 tk vs hk hlt hl hv _) (fun f s' hf => ?_) fun _ _ e => e
    obtain ⟨rfl, hq⟩ := hf
    exact ⟨_, rfl, wpAny_pure ⟨_, rfl, hq⟩⟩
end
end PF
end

/-! ## PfS4f -/
section
/-! PfS4f: list(d), sorted(d) by data. -/
set_option linter.all false
set_option autoImplicit false
set_option maxHeartbeats 1000000
set_option maxRecDepth 100000
namespace PF
open PySem PySem.W PySem.Calls PyProof.Rows PyProof.V PySem.Spec PySem.SeqAt L2
open Sem (wp)
/-- the entries of a dict, the keys' values by data -/
def KeysAtD (X : Cx) (H : Hp) (d : Addr) (bs : List (V × D)) : Prop := (d == sysModules) = false ∧ bs.length ≤ 1000001 ∧ ∀ hp, HOk X.prog X.w H hp → ∃ es ep, hp.DictRaw d es ep ∧ es.size = bs.length ∧ ∀ (i : Nat) (hi : i < es.size) (b : V × D), bs[i]? = some b → RelV b.1 es[i].key
theorem DctAt.keysD {X : Cx} {G : Gh} {H : Hp} {a : Addr} {kvs : List (D × D)} (h : DctAt X.K G H a kvs) : ∃ bs : List (V × D), KeysAtD X H a bs ∧ bs.map (·.2) = kvs.map (·.1) ∧ ∀ b ∈ bs, Den X.K G H b.1 b.2 := by
  obtain ⟨o, es, ep, h1, h2, h3, h4, h5, h6, h7⟩ := h
  have key : ∀ {l : List DictEntry} {kvs : List (D × D)}, DenE X.K G H l kvs → ∃ bs : List (V × D), bs.length = l.length ∧ (∀ (i : Nat) (e : DictEntry) (b : V × D), l[i]? = some e → bs[i]? = some b → RelV b.1 e.key) ∧ bs.map (·.2) = kvs.map (·.1) ∧ ∀ b ∈ bs, Den X.K G H b.1 b.2 := by
    intro l
    induction l with
    | nil =>
      intro kvs h
      cases kvs with
      | nil => exact ⟨[], rfl, fun i e b h => by simp at h, rfl, fun b h => by cases h⟩
      | cons => exact h.elim
    | cons e l ih =>
      intro kvs h
      cases kvs with
      | nil => exact h.elim
      | cons p kvs =>
        obtain ⟨a, b⟩ := p
        obtain ⟨⟨k, kv, vv, g1, g2, g3, g4, g5, g6⟩, g7⟩ := h
        obtain ⟨bs, b1, b2, b3, b4⟩ := ih g7
        refine ⟨(kv, a) :: bs, by simp [b1], fun i e' b' he hb => ?_, by simp [b3], fun b' hb => ?_⟩
        · cases i with
          | zero =>
            simp at he hb
            subst he hb
            exact g3
          | succ i => exact b2 i e' b' (by simpa using he) (by simpa using hb)
        · rcases List.mem_cons.mp hb with rfl | hb
          · exact g4
          · exact b4 b' hb
  obtain ⟨bs, b1, b2, b3, b4⟩ := key h7
  have hl : bs.length = kvs.length := by
    have := congrArg List.length b3
    simpa using this
  refine ⟨bs, ⟨h4, by omega, fun hp ok => ⟨es, ep, ⟨o, (ok a _ h1).1, h2, h3⟩, by rw [b1]; simp, fun i hi b hb => b2 i es[i] b (by rw [Array.getElem?_toList]; exact Array.getElem?_eq_getElem hi) hb⟩⟩, b3, b4⟩
theorem vals_at {bs : List (V × D)} {vs : List Value} (hl : vs.length = bs.length) (h : ∀ (i : Nat) (b : V × D) (v : Value), bs[i]? = some b → vs[i]? = some v → RelV b.1 v) : Vals (bs.map (·.1)) vs := by
  induction bs generalizing vs with
  | nil =>
    cases vs with
    | nil => exact .nil
    | cons => simp at hl
  | cons b bs ih =>
    cases vs with
    | nil => simp at hl
    | cons v vs => exact .cons (h 0 b v rfl rfl) (ih (by simpa using hl) fun i b' v' h1 h2 => h (i + 1) b' v' (by simpa using h1) (by simpa using h2))
section
variable {X : Cx}
def rListD (X : Cx) : List V → Hp → VK → Prop := fun vs H Q => ∃ (d : Addr) (bs : List (V × D)), vs = [.ref d] ∧ KeysAtD X H d bs ∧ ∀ p, H p = none → Q (.ref p) (upd H p (.lst (bs.map (·.1))))
theorem cr_listD (hc : X.calm = true) : CallR X (.type "list") (rListD X) := by
  intro pins s σ H vs us Q I r h
  obtain ⟨d, bs, rfl, ⟨hs, hl, hk⟩, q⟩ := h
  rw [Vals.ref1 r]
  obtain ⟨es, ep, hr, hsz, hv⟩ := hk _ I.hok
  have hz := sizeLine_eq
  refine kdl_call (KdlSrc.rawDict (prog := X.prog) (w := X.w) (es := es) (ep := ep) hs) (I.ok.hd hc) hr (by omega) fun h' tk acc' c' hk' hg hacc => ?_
  have rv : Vals (bs.map (·.1)) acc'.toList := vals_at (by rw [Array.length_toList]; exact hacc.1.trans hsz) fun i b v h1 h2 => by
    obtain ⟨hi, rfl⟩ := hacc.2 i v (by rw [← Array.getElem?_toList]; exact h2)
    exact hv i hi b h1
  have hn := I.hok.fresh (Nat.le_refl s.heap.objs.size)
  exact ⟨.ref s.heap.objs.size, upd H s.heap.objs.size (.lst (bs.map (·.1))), I.laid (a := s.heap.objs.size) (t' := tk) hk' (Nat.le_refl _) ⟨by rw [List.length_map]; omega, acc'.toList, c', rv, by rw [Array.toArray_toList]; exact hg⟩, rfl, q _ hn⟩
def rSortedDG (X : Cx) : List V → Hp → VK → Prop := fun vs H Q => ∃ (d : Addr) (bs : List (V × D)), vs = [.ref d] ∧ KeysAtD X H d bs ∧ (∀ b, b ∈ bs → Dp X.K H b.1 (encG b.2) ∧ isTupK b.2 = true ∧ nestG b.2 18 = true ∧ ∀ b', b' ∈ bs → alikeG b.2 b'.2 = true) ∧
  ∀ p, H p = none → Q (.ref p) (upd H p (.lst ((bs.mergeSort fun p q => leG p.2 q.2).map (·.1))))
theorem cr_sortedDG (hc : X.calm = true) (hu : X.A.units + 65 < cLine) : CallR X (.builtin "sorted") (rSortedDG X) := by
  intro pins s σ H vs us Q I r h
  obtain ⟨d, bs, rfl, ⟨hs, hl, hk⟩, hd, q⟩ := h
  rw [Vals.ref1 r]
  obtain ⟨es, ep, hr, hsz, hv⟩ := hk _ I.hok
  have hz := sizeLine_eq
  refine sorted_src (KdlSrc.rawDict (prog := X.prog) (w := X.w) (es := es) (ep := ep) hs) (I.ok.hd hc) hr (by omega) fun h1 tk its hk' hlt hn hits E' => ?_
  have hlen : its.length = bs.length := hn.trans hsz
  have rv : Vals (bs.map (·.1)) its := vals_at hlen fun i b v e1 e2 => by
    obtain ⟨hi, rfl⟩ := hits i v e2
    exact hv i hi b e1
  have e1 := each_v rv
  have er : EachIs (fun v (b : V × D) => ∃ as, Reads s.heap v (encG b.2) as) its bs := (each_mem e1).mono fun v b hb => Dp.reads I _ _ _ (hd b hb.2).1 hb.1
  have hg : (h1.push (seqObj "list" its.toArray 0)).get? h1.objs.size = some (seqObj "list" its.toArray 0) := Heap.get?_push_size _ rfl
  have kp : ∀ b o, s.heap.get? b = some o → (h1.push (seqObj "list" its.toArray 0)).get? b = some o := fun b o e => Heap.get?_push_of_some _ (hk' b o e)
  have nb : ∀ b o, s.heap.get? b = some o → b ≠ h1.objs.size := fun b o e => Nat.ne_of_lt (Nat.lt_trans (Heap.lt_size e) hlt)
  have er' : EachIs (fun v (b : V × D) => ∃ as, Reads (sortingHeap (h1.push (seqObj "list" its.toArray 0)) h1.objs.size its) v (encG b.2) as) its bs := er.mono fun _ _ ⟨as, r⟩ => ⟨as, Reads.keeps (fun b o e => sortingHeap_old (nb b o e) (kp b o e)) r⟩
  obtain ⟨sa, hal⟩ := sortsG_at (X := X) (h' := s.heap) (A := X.A.in1.in1) (s := { s with heap := sortingHeap (h1.push (seqObj "list" its.toArray 0)) h1.objs.size its, toks := tk }) (by show X.A.units + 1 + 1 + 60 < cLine; omega) er' (fun b hb => (hd b hb).2)
  refine list_sort_vals (s := { s with heap := h1.push (seqObj "list" its.toArray 0), toks := tk }) hg sa (by omega) ⟨rfl, ?_⟩
  have so := sortVals_data (R := fun v (b : V × D) => RelV b.1 v) (enc := fun b => encG b.2) false e1 er' hal
  rw [le_encG] at so
  generalize sortVals (dataKind (sortingHeap (h1.push (seqObj "list" its.toArray 0)) h1.objs.size its) (bs.map fun b => encG b.2)) false its its = out at so ⊢
  obtain ⟨ep2, he'⟩ := sortedHeap_at (out := out.toArray) hg
  have hlen2 : ((bs.mergeSort fun p q => leG p.2 q.2).map (·.1)).length ≤ sizeLine := by
    rw [List.length_map, (List.mergeSort_perm _ _).length_eq]
    omega
  have hfr : H h1.objs.size = none := I.hok.fresh (Nat.le_of_lt hlt)
  exact ⟨.ref h1.objs.size, upd H h1.objs.size (.lst ((bs.mergeSort fun p q => leG p.2 q.2).map (·.1))), I.laid (t' := tk) (fun b o e => (sortedHeap_old (nb b o e) (by rw [size_push']; exact Nat.lt_succ_of_lt (Nat.lt_trans (Heap.lt_size e) hlt))).trans (kp b o e)) (Nat.le_of_lt hlt) ⟨hlen2, out, ep2, v_each so, he'⟩, rfl, q _ hfr⟩
def rLenD (X : Cx) : List V → Hp → VK → Prop := fun vs H Q => ∃ (d : Addr) (bs : List (V × D)), vs = [.ref d] ∧ KeysAtD X H d bs ∧ Q (.int bs.length) H
theorem cr_lenD : CallR X (.builtin "len") (rLenD X) := by
  intro pins s σ H vs us Q I r h
  obtain ⟨d, bs, rfl, ⟨hs, hl, hk⟩, q⟩ := h
  rw [Vals.ref1 r]
  obtain ⟨es, ep, hr, hsz, hv⟩ := hk _ I.hok
  refine call_len_slot (n := es.size) hr.typeIs F.slot_dict_len (fun Q' hq => call_len_raw hs hr hq) (by omega) (by omega) ?_
  exact ⟨.int bs.length, H, I.tok _, ⟨_, by rw [hsz]⟩, q⟩
end
end PF
end

/-! ## PfS5 -/
section
/-! PfS5: built-in functions, isinstance, index. -/
set_option linter.all false
set_option autoImplicit false
namespace PF
open PySem L2

def bname : Blt → Str
  | .len => "len" | .tuple => "tuple" | .list => "list" | .sorted => "sorted" | .all => "all" | .any => "any" | .sum => "sum" | .abs => "abs" | .int => "int" | .bool => "bool" | .str => "str" | .min => "min" | .max => "max" | .dict => "dict"
def bval : Blt → Value
  | .len => .builtin "len" | .tuple => .type "tuple" | .list => .type "list" | .sorted => .builtin "sorted" | .all => .builtin "all" | .any => .builtin "any" | .sum => .builtin "sum" | .abs => .builtin "abs"
  | .int => .type "int" | .bool => .type "bool" | .str => .type "str" | .min => .builtin "min" | .max => .builtin "max" | .dict => .type "dict"
theorem bboot (b : Blt) : bootBuiltins (bname b) = some (bval b) := by cases b <;> decide +kernel
theorem bnn (b : Blt) : bname b ≠ "__name__" := by cases b <;> decide
theorem bnd (b : Blt) : (bname b == ("__debug__" : Str)) = false := by cases b <;> decide

section
variable {X : Cx} {W : WX}
theorem or_l {f : Value} {r r' : List V → Hp → VK → Prop} (h : CallR X f r) (h' : CallR X f r') : CallR X f (fun xs H Q => r xs H Q ∨ r' xs H Q) := L2.CallR.or h h'
def RdF (X : Cx) (b : Blt) (r : List V → Hp → VK → Prop) : Prop := ∀ G H c vs xs z (Q : VK), Trk G H → CupR G H c → BorL X.K G H vs xs → opF b xs = some z → Go X.K G H c z Q → r vs H Q
theorem bor1 {K : PySem.W.Frag} {G : Gh} {H : Hp} {vs : List V} {x : D} (h : BorL K G H vs [x]) : ∃ v, vs = [v] ∧ Bor K G H v x := by
  match vs, h with
  | [v], h => exact ⟨v, rfl, h.1⟩
theorem bor2 {K : PySem.W.Frag} {G : Gh} {H : Hp} {vs : List V} {x y : D} (h : BorL K G H vs [x, y]) : ∃ v u, vs = [v, u] ∧ Bor K G H v x ∧ Bor K G H u y := by
  match vs, h with
  | [v, u], h => exact ⟨v, u, rfl, h.1, h.2.1⟩
theorem min_of {is : List Int} {m : Int} (h1 : m ∈ is) (h2 : ∀ y, y ∈ is → m ≤ y) : is.min? = some m := by
  rw [List.min?_eq_some_iff]
  exact ⟨h1, h2⟩
theorem max_of {is : List Int} {m : Int} (h1 : m ∈ is) (h2 : ∀ y, y ∈ is → y ≤ m) : is.max? = some m := by
  rw [List.max?_eq_some_iff]
  exact ⟨h1, h2⟩
theorem ints_eq : ∀ {xs : List D} {is : List Int}, ints? xs = some is → xs = is.map .int
  | [], is, h => by simp [ints?] at h; subst h; rfl
  | x :: xs, is, h => by
    cases x <;> simp [ints?] at h
    obtain ⟨js, h1, rfl⟩ := h
    rw [ints_eq h1]
    rfl
theorem tups_eq : ∀ {xs : List D} {ts : List (List Int)}, allSome (xs.map intsT?) = some ts → xs = ts.map tupD
  | [], ts, h => by simp [allSome] at h; subst h; rfl
  | x :: xs, ts, h => by
    cases x with
    | tup ds =>
      rw [List.map_cons] at h
      cases e : ints? ds with
      | none => simp [intsT?, e, allSome] at h
      | some is =>
        simp only [intsT?, e, allSome, Option.map_eq_some_iff] at h
        obtain ⟨us, h1, rfl⟩ := h
        rw [tups_eq h1, ints_eq e]
        rfl
    | _ => simp [intsT?, allSome] at h
theorem den_tups {K : PySem.W.Frag} {G : Gh} {H : Hp} : ∀ {bs : List (V × List Int)}, (∀ b, b ∈ bs → Den K G H b.1 (tupD b.2)) → DenL K G H (bs.map (·.1)) ((bs.map (·.2)).map tupD)
  | [], _ => True.intro
  | b :: bs, h => ⟨h b (List.mem_cons_self ..), den_tups fun c hc => h c (List.mem_cons_of_mem _ hc)⟩
theorem den_zip {K : PySem.W.Frag} {G : Gh} {H : Hp} : ∀ {us : List V} {ts : List (List Int)}, DenL K G H us (ts.map tupD) → (us.zip ts).map (·.1) = us ∧ (us.zip ts).map (·.2) = ts ∧ ∀ b, b ∈ us.zip ts → Den K G H b.1 (tupD b.2)
  | [], [], _ => ⟨rfl, rfl, fun b h => by simp at h⟩
  | u :: us, t :: ts, h => by
    obtain ⟨h1, h2, h3⟩ := den_zip (us := us) (ts := ts) h.2
    refine ⟨by simp [h1], by simp [h2], fun b hb => ?_⟩
    rw [List.zip_cons_cons] at hb
    rcases List.mem_cons.mp hb with rfl | hb
    · exact h.1
    · exact h3 b hb
  | [], _ :: _, h => h.elim
  | _ :: _, [], h => h.elim
theorem ofD_ints : ∀ t : List Int, ofDs (t.map .int) = some (t.map .int)
  | [] => rfl
  | x :: t => by
    show (match ofD (.int x), ofDs (t.map .int) with
      | some p, some ps => some (p :: ps)
      | _, _ => none) = _
    rw [ofD_ints t]
    rfl
theorem plain_ints : ∀ (t : List Int) (n : Nat), plainsN (t.map .int) n = true
  | [], _ => by simp [plainsN]
  | x :: t, n => by
    show plainsN (D.int x :: t.map .int) n = true
    simp [plainsN, plainN, plain_ints t n]
theorem dp_tup {K : PySem.W.Frag} {G : Gh} {H : Hp} {b : V × List Int} (h : Den K G H b.1 (tupD b.2)) : Dp K H b.1 (encT b) := by
  obtain ⟨p, h1, h2, h3, h4⟩ := Den.data (tupD b.2) 1 b.1 h (by show plainsN (b.2.map .int) 0 = true; exact plain_ints _ _)
  have e : ofD (tupD b.2) = some (encT b) := by
    show (ofDs (b.2.map .int)).map PyData.tuple = _
    rw [ofD_ints]
    rfl
  rw [e] at h4
  cases h4
  exact h1
theorem prs_eq : ∀ {xs : List D} {ts : List (Int × List Int)}, allSome (xs.map intP?) = some ts → xs = ts.map pairD
  | [], ts, h => by simp [allSome] at h; subst h; rfl
  | x :: xs, ts, h => by
    rw [List.map_cons] at h
    cases e : intP? x with
    | none => rw [e] at h; simp [allSome] at h
    | some p =>
      rw [e] at h
      simp only [allSome, Option.map_eq_some_iff] at h
      obtain ⟨us, h1, rfl⟩ := h
      rw [prs_eq h1]
      unfold intP? at e
      split at e
      · rename_i i ds
        rw [Option.map_eq_some_iff] at e
        obtain ⟨is, e1, rfl⟩ := e
        rw [ints_eq e1]
        rfl
      · cases e
theorem den_prs {K : PySem.W.Frag} {G : Gh} {H : Hp} : ∀ {bs : List (V × (Int × List Int))}, (∀ b, b ∈ bs → Den K G H b.1 (pairD b.2)) → DenL K G H (bs.map (·.1)) ((bs.map (·.2)).map pairD)
  | [], _ => True.intro
  | b :: bs, h => ⟨h b (List.mem_cons_self ..), den_prs fun c hc => h c (List.mem_cons_of_mem _ hc)⟩
theorem den_zipP {K : PySem.W.Frag} {G : Gh} {H : Hp} : ∀ {us : List V} {ts : List (Int × List Int)}, DenL K G H us (ts.map pairD) → (us.zip ts).map (·.1) = us ∧ (us.zip ts).map (·.2) = ts ∧ ∀ b, b ∈ us.zip ts → Den K G H b.1 (pairD b.2)
  | [], [], _ => ⟨rfl, rfl, fun b h => by simp at h⟩
  | u :: us, t :: ts, h => by
    obtain ⟨h1, h2, h3⟩ := den_zipP (us := us) (ts := ts) h.2
    refine ⟨by simp [h1], by simp [h2], fun b hb => ?_⟩
    rw [List.zip_cons_cons] at hb
    rcases List.mem_cons.mp hb with rfl | hb
    · exact h.1
    · exact h3 b hb
  | [], _ :: _, h => h.elim
  | _ :: _, [], h => h.elim
theorem dp_pair {K : PySem.W.Frag} {G : Gh} {H : Hp} {b : V × (Int × List Int)} (h : Den K G H b.1 (pairD b.2)) : Dp K H b.1 (encP b) := by
  obtain ⟨p, h1, h2, h3, h4⟩ := Den.data (pairD b.2) 2 b.1 h (by
    show (plainN (.int b.2.1) 1 && (plainN (tupD b.2.2) 1 && true)) = true
    have := plain_ints b.2.2 0
    simp [plainN, tupD, this])
  have e : ofD (pairD b.2) = some (encP b) := by
    show (match ofD (.int b.2.1), (match ofD (tupD b.2.2), ofDs [] with
      | some p, some ps => some (p :: ps)
      | _, _ => none) with
      | some p, some ps => some (p :: ps)
      | _, _ => none).map PyData.tuple = _
    have e2 : ofD (tupD b.2.2) = some (.tuple (b.2.2.map .int)) := by
      show (ofDs (b.2.2.map .int)).map PyData.tuple = _
      rw [ofD_ints]
      rfl
    rw [e2]
    rfl
  rw [e] at h4
  cases h4
  exact h1
theorem sortsG_of {xs : List D} (h : sortsG xs = true) : ∀ x ∈ xs, isTupK x = true ∧ nestG x 18 = true ∧ ∀ y ∈ xs, alikeG x y = true := fun x hx => by
  unfold sortsG at h
  have := List.all_eq_true.mp h x hx
  simp only [Bool.and_eq_true, List.all_eq_true] at this
  exact ⟨this.1.1, this.1.2, this.2⟩
theorem dp_G {K : PySem.W.Frag} {G : Gh} {H : Hp} {v : V} {d : D} (h : Den K G H v d) (n : nestG d 18 = true) : Dp K H v (encG d) := by
  obtain ⟨p, h1, h2, h3, h4⟩ := Den.data d 18 v h (plain_G d 18 n)
  rw [(ofD_G d 18 n).1] at h4
  cases h4
  exact h1
theorem den_G {K : PySem.W.Frag} {G : Gh} {H : Hp} : ∀ {bs : List (V × D)}, (∀ b, b ∈ bs → Den K G H b.1 b.2) → DenL K G H (bs.map (·.1)) (bs.map (·.2))
  | [], _ => True.intro
  | b :: bs, h => ⟨h b (List.mem_cons_self ..), den_G fun c hc => h c (List.mem_cons_of_mem _ hc)⟩
theorem den_zipG {K : PySem.W.Frag} {G : Gh} {H : Hp} : ∀ {us : List V} {ts : List D}, DenL K G H us ts → (us.zip ts).map (·.1) = us ∧ (us.zip ts).map (·.2) = ts ∧ ∀ b, b ∈ us.zip ts → Den K G H b.1 b.2
  | [], [], _ => ⟨rfl, rfl, fun b h => by simp at h⟩
  | u :: us, t :: ts, h => by
    obtain ⟨h1, h2, h3⟩ := den_zipG (us := us) (ts := ts) h.2
    refine ⟨by simp [h1], by simp [h2], fun b hb => ?_⟩
    rw [List.zip_cons_cons] at hb
    rcases List.mem_cons.mp hb with rfl | hb
    · exact h.1
    · exact h3 b hb
  | [], _ :: _, h => h.elim
  | _ :: _, [], h => h.elim
theorem isort_memG {xs ys : List D} (h : sortsG xs = true) (h1 : ys.Perm xs) (h2 : ys.Pairwise fun a b => leG a b = true) : isort leG xs = ys := by
  have hs := sortsG_of h
  refine ((isort_perm xs).trans h1.symm).eq_of_pairwise (fun a b ha hb h h' => ?_) (isort_sorted leG_total leG_trans xs) h2
  have ha' : a ∈ xs := (isort_perm xs).subset ha
  have hb' : b ∈ xs := h1.subset hb
  have e := lexLe_antisymm _ _ h h'
  exact (tok_inj a b 18 18 [] [] (hs a ha').2.1 (hs b hb').2.1 ((hs a ha').2.2 b hb') (by rw [e])).1
theorem sortG_eq {bs : List (V × D)} (h : sortsG (bs.map (·.2)) = true) : isort leG (bs.map (·.2)) = (bs.mergeSort fun p q => leG p.2 q.2).map (·.2) := by
  refine isort_memG h ((List.mergeSort_perm bs fun p q => leG p.2 q.2).map (·.2)) ?_
  rw [List.pairwise_map]
  exact List.pairwise_mergeSort (fun a b c => leG_trans a.2 b.2 c.2) (fun a b => by
    rcases leG_total a.2 b.2 with h | h <;> simp [h]) _
theorem sorted_ok (hc : X.calm = true) (hu : X.A.units + 65 < cLine) : ∃ r, CallR X (.builtin "sorted") r ∧ RdF X .sorted r := by
  refine ⟨_, or_l (or_l (or_l (or_l cr_sortedI (cr_sortedT hu)) (cr_sortedP hu)) (cr_sortedG hu)) (cr_sortedDG hc hu), fun G H c vs xs z Q t q hx e k => ?_⟩
  unfold opF at e
  split at e <;> (first | (rename_i e1; cases e1) | skip) <;> (try simp only [reduceCtorEq, Option.map_eq_some_iff] at e)
  · obtain ⟨ys, e, rfl⟩ := e
    obtain ⟨v, rfl, a, us, rfl, na, h1, h2⟩ := bor1 hx
    unfold sortD at e
    split at e
    · rename_i is hi
      cases e
      have e2 := h2.ints hi
      subst e2
      refine .inl <| .inl <| .inl <| .inl ⟨a, is, rfl, .of h1, fun ns' p hp hs hf => ?_⟩
      have e3 : isort (fun a b => decide (a ≤ b)) is = ns' := isort_of (fun a b => by simp only [decide_eq_true_eq]; omega) (fun a b c => by simp only [decide_eq_true_eq]; omega) (fun a b => by simp only [decide_eq_true_eq]; omega) hp (hs.imp fun h => decide_eq_true h)
      rw [e3] at k
      exact k.lst t q (DenL.ofInts ns') p hf
    · split at e
      · rename_i ts hts
        cases e
        have e2 := tups_eq hts
        subst e2
        obtain ⟨z1, z2, z3⟩ := den_zip h2
        refine .inl <| .inl <| .inl <| .inr ⟨a, us.zip ts, rfl, by rw [z1]; exact .of h1, fun b hb => dp_tup (z3 b hb), fun p hp => ?_⟩
        have e3 : isort lexLe ts = ((us.zip ts).mergeSort fun p q => lexLe p.2 q.2).map (·.2) := by
          refine isort_of lexLe_total lexLe_trans lexLe_antisymm ?_ ?_
          · have := (List.mergeSort_perm (us.zip ts) fun p q => lexLe p.2 q.2).map (·.2)
            rw [z2] at this
            exact this
          · rw [List.pairwise_map]
            exact List.pairwise_mergeSort (fun a b c => lexLe_trans a.2 b.2 c.2) (fun a b => by
              rcases lexLe_total a.2 b.2 with h | h <;> simp [h]) _
        rw [e3] at k
        exact k.lst t q (den_tups fun b hb => z3 b ((List.mergeSort_perm _ _).subset hb)) p hp
      · split at e
        · rename_i ts hts
          cases e
          have e2 := prs_eq hts
          subst e2
          obtain ⟨z1, z2, z3⟩ := den_zipP h2
          refine .inl <| .inl <| .inr ⟨a, us.zip ts, rfl, by rw [z1]; exact .of h1, fun b hb => dp_pair (z3 b hb), fun p hp => ?_⟩
          have e3 : isort pairLe ts = ((us.zip ts).mergeSort fun p q => pairLe p.2 q.2).map (·.2) := by
            refine isort_of pairLe_total pairLe_trans pairLe_antisymm ?_ ?_
            · have := (List.mergeSort_perm (us.zip ts) fun p q => pairLe p.2 q.2).map (·.2)
              rw [z2] at this
              exact this
            · rw [List.pairwise_map]
              exact List.pairwise_mergeSort (fun a b c => pairLe_trans a.2 b.2 c.2) (fun a b => by
                rcases pairLe_total a.2 b.2 with h | h <;> simp [h]) _
          rw [e3] at k
          exact k.lst t q (den_prs fun b hb => z3 b ((List.mergeSort_perm _ _).subset hb)) p hp
        · split at e
          · rename_i hg
            cases e
            rename_i xs _ _ _ _ _ _
            obtain ⟨z1, z2, z3⟩ := den_zipG h2
            have hg' : sortsG ((us.zip xs).map (·.2)) = true := by rw [z2]; exact hg
            have hs := sortsG_of hg'
            have hs' := fun (b : V × D) (hb : b ∈ us.zip xs) => hs b.2 (List.mem_map.mpr ⟨b, hb, rfl⟩)
            refine .inl <| .inr ⟨a, us.zip xs, rfl, by rw [z1]; exact .of h1, fun b hb => ⟨dp_G (z3 b hb) (hs' b hb).2.1, (hs' b hb).1, (hs' b hb).2.1, fun b' hb' => (hs' b hb).2.2 b'.2 (List.mem_map.mpr ⟨b', hb', rfl⟩)⟩, fun p hp => ?_⟩
            have e3 := sortG_eq hg'
            rw [z2] at e3
            rw [e3] at k
            exact k.lst t q (den_G fun b hb => z3 b ((List.mergeSort_perm _ _).subset hb)) p hp
          · cases e
  · split at e
    · rename_i hg
      cases e
      rw [Bool.and_eq_true] at hg
      obtain ⟨v, rfl, a, rfl, na, dat⟩ := bor1 hx
      obtain ⟨bs, b1, b2, b3⟩ := dat.keysD
      have hg' : sortsG (bs.map (·.2)) = true := by rw [b2]; exact hg.2
      have hs := sortsG_of hg'
      have hs' := fun (b : V × D) (hb : b ∈ bs) => hs b.2 (List.mem_map.mpr ⟨b, hb, rfl⟩)
      refine .inr ⟨a, bs, rfl, b1, fun b hb => ⟨dp_G (b3 b hb) (hs' b hb).2.1, (hs' b hb).1, (hs' b hb).2.1, fun b' hb' => (hs' b hb).2.2 b'.2 (List.mem_map.mpr ⟨b', hb', rfl⟩)⟩, fun p hp => ?_⟩
      rw [← b2, sortG_eq hg'] at k
      exact k.lst t q (den_G fun b hb => b3 b ((List.mergeSort_perm _ _).subset hb)) p hp
    · cases e
theorem opF_ok (hc : X.calm = true) (hu : X.A.units + 65 < cLine) (b : Blt) : ∃ r, CallR X (bval b) r ∧ RdF X b r := by
  cases b with
  | dict =>
    refine ⟨_, cr_dictL hc hu, fun G H c vs xs z Q t q hx e k => ?_⟩
    have fin : ∀ {l : Addr} {us : List V} {ds : List D} {kvs : List (D × D)}, small ds.length = true → dFold [] ds = some kvs → DenL X.K G H us ds → Go X.K G H c (.dct kvs) Q → (SqL X.K H l us ∨ ∃ o, H l = some (.frz o (.tup us)) ∧ o.dict = none) → rDictL X [.ref l] H Q := by
      intro l us ds kvs hsm e h2 k hq
      have hsm' := of_decide_eq_true hsm
      obtain ⟨es, hp, hu2⟩ := prel_of _ us [] kvs h2 e
      refine ⟨l, es, rfl, by rw [← hu2]; exact hq, hp.all, by rw [hp.length]; exact hsm', fun p ob ys hn hs rx ie nd => ?_⟩
      have e0 : Ext G H G (upd H p (dO p ob)) := Ext.made hn True.intro
      have hp' := hp.stay e0.stb (fun b o u e => by rw [upd_ne (ne_of_none e hn)]; exact e)
      have hl := dFold_len _ [] kvs e
      exact k (.ref p) _ G e0 (t.made hn True.intro) (q.made hn) ((dctAt_of upd_same ie hs nd (by simp at hl; omega) (PRel.rx es _ ys [] [] kvs hp' rx True.intro e)).den (not_F t q hn))
    unfold opF at e
    split at e <;> (first | (rename_i e1; cases e1) | skip) <;> (try simp only [reduceCtorEq] at e)
    · split at e
      · rename_i hsm
        rw [Option.map_eq_some_iff] at e
        obtain ⟨kvs, e, rfl⟩ := e
        obtain ⟨v, rfl, a, us, rfl, na, h1, h2⟩ := bor1 hx
        exact fin hsm e h2 k (.inl (.of h1))
      · cases e
    · split at e
      · rename_i hsm
        rw [Option.map_eq_some_iff] at e
        obtain ⟨kvs, e, rfl⟩ := e
        obtain ⟨v, rfl, a, us, o, rfl, na, h1, hd, h2⟩ := bor1 hx
        exact fin hsm e h2 k (.inr ⟨o, h1, hd⟩)
      · cases e
  | len =>
    refine ⟨_, or_l call_len_seq cr_lenD, fun G H c vs xs z Q t q hx e k => ?_⟩
    unfold opF at e
    split at e <;> (first | (rename_i e1; cases e1) | skip) <;> simp only [reduceCtorEq, Option.some.injEq] at e
    · subst e
      obtain ⟨v, rfl, a, us, rfl, na, h1, h2⟩ := bor1 hx
      exact .inl ⟨a, us, rfl, .inl (.of h1), k.here t q (by rw [h2.length]; rfl)⟩
    · subst e
      obtain ⟨v, rfl, a, us, o1, rfl, na, h1, d1, h2⟩ := bor1 hx
      exact .inl ⟨a, us, rfl, .inr (sqT h1), k.here t q (by rw [h2.length]; rfl)⟩
    · subst e
      obtain ⟨v, rfl, a, rfl, na, dat⟩ := bor1 hx
      obtain ⟨bs, b1, b2, b3⟩ := dat.keysD
      have hl := congrArg List.length b2
      rw [List.length_map, List.length_map] at hl
      exact .inr ⟨a, bs, rfl, b1, k.here t q (by rw [hl]; rfl)⟩
  | tuple =>
    refine ⟨_, call_tupF, fun G H c vs xs z Q t q hx e k => ?_⟩
    unfold opF at e
    split at e <;> (first | (rename_i e1; cases e1) | skip) <;> simp only [reduceCtorEq, Option.some.injEq] at e
    · subst e
      obtain ⟨v, rfl, a, us, rfl, na, h1, h2⟩ := bor1 hx
      exact ⟨a, us, rfl, .inl ⟨.of h1, k.tup t q h2⟩⟩
    · subst e
      obtain ⟨v, rfl, a, us, o1, rfl, na, h1, d1, h2⟩ := bor1 hx
      exact ⟨a, us, rfl, .inr ⟨sqT h1, k.here t q ⟨a, us, o1, rfl, na, h1, d1, h2⟩⟩⟩
  | list =>
    refine ⟨_, or_l call_list_of (cr_listD hc), fun G H c vs xs z Q t q hx e k => ?_⟩
    unfold opF at e
    split at e <;> (first | (rename_i e1; cases e1) | skip) <;> (try simp only [reduceCtorEq, Option.some.injEq] at e)
    · subst e
      obtain ⟨v, rfl, a, us, rfl, na, h1, h2⟩ := bor1 hx
      exact .inl ⟨a, us, rfl, .inl (.of h1), k.lst t q h2⟩
    · subst e
      obtain ⟨v, rfl, a, us, o1, rfl, na, h1, d1, h2⟩ := bor1 hx
      exact .inl ⟨a, us, rfl, .inr (sqT h1), k.lst t q h2⟩
    · subst e
      obtain ⟨v, rfl, a, rfl, h1⟩ := bor1 hx
      refine .inl ⟨a, _, rfl, .inl ?_, k.lst t q (DenL.ofInts _)⟩
      rcases h1 with ⟨o, _, _, h1, h2⟩ | h1
      · exact h2 H h1
      · exact h1 H
    · split at e
      · cases e
        obtain ⟨v, rfl, a, rfl, na, dat⟩ := bor1 hx
        obtain ⟨bs, b1, b2, b3⟩ := dat.keysD
        exact .inr ⟨a, bs, rfl, b1, k.lst t q (by rw [← b2]; exact den_G b3)⟩
      · cases e
  | sorted => exact sorted_ok hc hu
  | all =>
    refine ⟨_, cr_all hc, fun G H c vs xs z Q t q hx e k => ?_⟩
    unfold opF at e
    split at e <;> (first | (rename_i e1; cases e1) | skip) <;> simp only [reduceCtorEq, Option.map_eq_some_iff] at e
    obtain ⟨bs, e1, rfl⟩ := e
    obtain ⟨v, rfl, a, us, rfl, na, h1, h2⟩ := bor1 hx
    cases h2.bls e1
    exact ⟨a, bs, rfl, .of h1, k.here t q rfl⟩
  | any =>
    refine ⟨_, cr_any hc, fun G H c vs xs z Q t q hx e k => ?_⟩
    unfold opF at e
    split at e <;> (first | (rename_i e1; cases e1) | skip) <;> simp only [reduceCtorEq, Option.map_eq_some_iff] at e
    obtain ⟨bs, e1, rfl⟩ := e
    obtain ⟨v, rfl, a, us, rfl, na, h1, h2⟩ := bor1 hx
    cases h2.bls e1
    exact ⟨a, bs, rfl, .of h1, k.here t q rfl⟩
  | sum =>
    refine ⟨_, cr_sum hc, fun G H c vs xs z Q t q hx e k => ?_⟩
    unfold opF at e
    split at e <;> (first | (rename_i e1; cases e1) | skip) <;> simp only [reduceCtorEq, Option.map_eq_some_iff] at e
    obtain ⟨bs, e1, rfl⟩ := e
    obtain ⟨v, rfl, a, us, rfl, na, h1, h2⟩ := bor1 hx
    cases h2.ints e1
    exact ⟨a, bs, rfl, .of h1, k.here t q rfl⟩
  | abs =>
    refine ⟨_, call_abs, fun G H c vs xs z Q t q hx e k => ?_⟩
    unfold opF at e
    split at e <;> (first | (rename_i e1; cases e1) | skip) <;> simp only [reduceCtorEq, Option.some.injEq] at e
    subst e
    obtain ⟨v, rfl, h⟩ := bor1 hx
    cases show v = .int _ from h
    exact ⟨_, rfl, k.here t q rfl⟩
  | int =>
    refine ⟨_, call_int1, fun G H c vs xs z Q t q hx e k => ?_⟩
    unfold opF at e
    split at e <;> (first | (rename_i e1; cases e1) | skip) <;> simp only [reduceCtorEq, Option.some.injEq] at e
    · subst e
      obtain ⟨v, rfl, h⟩ := bor1 hx
      cases show v = .int _ from h
      exact .inl ⟨_, rfl, k.here t q rfl⟩
    · subst e
      obtain ⟨v, rfl, h⟩ := bor1 hx
      cases show v = .bl _ from h
      exact .inr ⟨_, rfl, k.here t q rfl⟩
  | bool =>
    refine ⟨_, call_bool1, fun G H c vs xs z Q t q hx e k => ?_⟩
    unfold opF at e
    split at e <;> (first | (rename_i e1; cases e1) | skip) <;> simp only [reduceCtorEq, Option.some.injEq] at e
    subst e
    obtain ⟨v, rfl, h⟩ := bor1 hx
    cases show v = .bl _ from h
    exact .inr ⟨_, rfl, k.here t q rfl⟩
  | str =>
    refine ⟨_, call_str_int, fun G H c vs xs z Q t q hx e k => ?_⟩
    unfold opF at e
    split at e <;> (first | (rename_i e1; cases e1) | skip) <;> simp only [reduceCtorEq, Option.some.injEq] at e
  | min =>
    refine ⟨_, or_l (cr_min hc) (call_min2 hc), fun G H c vs xs z Q t q hx e k => ?_⟩
    unfold opF at e
    split at e <;> (first | (rename_i e1; cases e1) | skip) <;> simp only [reduceCtorEq, Option.some.injEq, Option.bind_eq_some_iff, Option.map_eq_some_iff] at e
    · obtain ⟨is, e1, m, e2, rfl⟩ := e
      obtain ⟨v, rfl, a, us, rfl, na, h1, h2⟩ := bor1 hx
      cases h2.ints e1
      refine .inl ⟨a, is, rfl, .of h1, ?_, fun m' k1 k2 => ?_⟩
      · cases is with
        | nil => simp at e2
        | cons x r => simp
      · have := min_of k1 k2
        rw [this] at e2
        cases e2
        exact k.here t q rfl
    · subst e
      obtain ⟨v, u, rfl, h, h'⟩ := bor2 hx
      cases show v = .int _ from h
      cases show u = .int _ from h'
      exact .inr ⟨_, _, rfl, k.here t q rfl⟩
  | max =>
    refine ⟨_, or_l (cr_max hc) (call_max2 hc), fun G H c vs xs z Q t q hx e k => ?_⟩
    unfold opF at e
    split at e <;> (first | (rename_i e1; cases e1) | skip) <;> simp only [reduceCtorEq, Option.some.injEq, Option.bind_eq_some_iff, Option.map_eq_some_iff] at e
    · obtain ⟨is, e1, m, e2, rfl⟩ := e
      obtain ⟨v, rfl, a, us, rfl, na, h1, h2⟩ := bor1 hx
      cases h2.ints e1
      refine .inl ⟨a, is, rfl, .of h1, ?_, fun m' k1 k2 => ?_⟩
      · cases is with
        | nil => simp at e2
        | cons x r => simp
      · have := max_of k1 k2
        rw [this] at e2
        cases e2
        exact k.here t q rfl
    · subst e
      obtain ⟨v, u, rfl, h, h'⟩ := bor2 hx
      cases show v = .int _ from h
      cases show u = .int _ from h'
      exact .inr ⟨_, _, rfl, k.here t q rfl⟩
end
end PF
end

/-! ## PfS6 -/
section
/-! PfS6: the look at the text; expressions. -/
set_option linter.all false
set_option autoImplicit false
namespace PF
open PySem L2

/-! ### what the text must show -/
structure Tab where
  fn : Nat → Option (Str × Nat)
  consts : List (Str × Kst)
  blts : List Str
  excs : List Str
  /-- lambdas are looked at -/
  lam : Bool
def Tab.nolam (T : Tab) : Tab := { T with lam := false }
def noPar : Arguments → Bool
  | ⟨[], [], none, [], [], none, []⟩ => true
  | _ => false

def nstar : Expr → Bool
  | .Starred _ _ => false
  | _ => true
def nset : Expr → Bool
  | .Set _ _ _ => false
  | _ => true
def nslice : Expr → Bool
  | .Slice _ _ _ _ => false
  | _ => true
def nsuper : Expr → Bool
  | .Call (.Name _ _) [] [] _ => false
  | _ => true
def plainT : Expr → Bool
  | .UnaryOp .Not _ _ => false
  | .BoolOp _ _ _ => false
  | .IfExp _ _ _ _ => false
  | .Compare _ _ _ _ => false
  | _ => true
def nd (x : Str) : Bool := !(x == ("__debug__" : Str))
def visB (sc : Scope) (x : Str) : Bool := match sc.names.lookup x with
  | some .local => true
  | some .cell => true
  | some .free => true
  | _ => false
def glB (sc : Scope) (x : Str) : Bool := match sc.names.lookup x with
  | some .globalImplicit => true
  | _ => false
def varB (N : List Str) (sc : Scope) (e : Expr) (i : Nat) : Bool := match e with
  | .Name x _ => decide (N[i]? = some x) && visB sc x && nd x && !(x == ("__classdict__" : Str))
  | _ => false
def isNm (e : Expr) (x : Str) : Bool := match e with
  | .Name y _ => decide (y = x)
  | _ => false
def kstB : Kst → Const → Bool
  | .non, .none => true
  | .bl b, .bool c => b == c
  | .int i, .int j => decide (i = j)
  | .str x, .str y => decide (x = y)
  | _, _ => false
def kV : Kst → V
  | .non => .non | .bl b => .bl b | .int i => .int i | .str s => .str s
def tyN : Ty → String
  | .int => "int" | .bool => "bool" | .str => "str" | .list => "list" | .tuple => "tuple"
def tyS : Ty → Str
  | .int => "int" | .bool => "bool" | .str => "str" | .list => "list" | .tuple => "tuple"
def mtS : Mth → Str
  | .index => "index" | .count => "count" | .get => "get" | .items => "items" | .values => "values" | .keys => "keys"
def locB (sc : Scope) (x : Str) : Bool := match sc.names.lookup x with
  | some .local => true
  | some .cell => true
  | _ => false
mutual
/-- a target -/
def chkG (N : List Str) (sc : Scope) : Tg → Expr → Bool
  | .nm i, e => match e with
    | .Name x _ => decide (N[i]? = some x) && locB sc x
    | _ => false
  | .tp ts, e => match e with
    | .Tuple es _ _ => chkGs N sc ts es
    | _ => false
def chkGs (N : List Str) (sc : Scope) : List Tg → List Expr → Bool
  | [], es => match es with
    | [] => true
    | _ => false
  | t :: ts, es => match es with
    | e :: es => chkG N sc t e && chkGs N sc ts es
    | _ => false
end
def ownOf (N : List Str) (is : List Nat) : List (Str × Nat) := is.map fun i => (N.getD i "", i)
def bltB (T : Tab) (sc : Scope) (x : Str) : Bool := glB sc x && T.blts.contains x
def dflC (f : Expr → Bool) : (Expr → Bool) × (Expr → Bool) := (f, fun e => f e && plainT e)
mutual
/-- an expression; the same as a test -/
def chkP : Tab → List Str → Scope → Ex → (Expr → Bool) × (Expr → Bool)
  | T, N, sc, .var i => dflC (fun e => varB N sc e i)
  | T, N, sc, .cst k => dflC (fun e => match e with
    | .Constant c _ _ => kstB k c
    | _ => false)
  | T, N, sc, .glb x k => dflC (fun e => match e with
    | .Name y _ => decide (y = x) && glB sc x && nd x && decide (T.consts.lookup x = some k)
    | _ => false)
  | T, N, sc, .bin op a b => dflC (fun e => match e with
    | .BinOp x o y _ => decide (o = aop op) && (chkP T N sc a).1 x && (chkP T N sc b).1 y
    | _ => false)
  | T, N, sc, .neg a => dflC (fun e => match e with
    | .UnaryOp .USub x _ => (chkP T N sc a).1 x
    | _ => false)
  | T, N, sc, .not a => (fun e => match e with
    | .UnaryOp .Not x _ => (chkP T N sc a).1 x
    | _ => false, fun e => match e with
    | .UnaryOp .Not x _ => (chkP T N sc a).2 x
    | _ => false)
  | T, N, sc, .cmp op a b => (fun e => match e with
    | .Compare x [o] [y] _ => decide (o = acop op) && (chkP T N sc a).1 x && (chkP T N sc b).1 y && nset y
    | _ => false, fun e => match e with
    | .Compare x [o] [y] _ => decide (o = acop op) && (chkP T N sc a).1 x && (chkP T N sc b).1 y && nset y
    | _ => false)
  | T, N, sc, .chain o1 o2 a b c => (fun e => match e with
    | .Compare x [p1, p2] [y, z] _ => decide (p1 = acop o1) && decide (p2 = acop o2) && (chkP T N sc a).1 x && (chkP T N sc b).1 y && (chkP T N sc c).1 z && nset z
    | _ => false, fun e => match e with
    | .Compare x [p1, p2] [y, z] _ => decide (p1 = acop o1) && decide (p2 = acop o2) && (chkP T N sc a).1 x && (chkP T N sc b).1 y && (chkP T N sc c).1 z && nset z
    | _ => false)
  | T, N, sc, .and a b => (fun e => match e with
    | .BoolOp .And [x, y] _ => (chkP T N sc a).1 x && (chkP T N sc b).1 y
    | .BoolOp .And (x :: y :: z :: r) pos => (chkP T N sc a).1 x && (chkP T N sc b).1 (.BoolOp .And (y :: z :: r) pos)
    | _ => false, fun e => match e with
    | .BoolOp .And [x, y] _ => (chkP T N sc a).2 x && (chkP T N sc b).2 y
    | .BoolOp .And (x :: y :: z :: r) pos => (chkP T N sc a).2 x && (chkP T N sc b).2 (.BoolOp .And (y :: z :: r) pos)
    | _ => false)
  | T, N, sc, .or a b => (fun e => match e with
    | .BoolOp .Or [x, y] _ => (chkP T N sc a).1 x && (chkP T N sc b).1 y
    | .BoolOp .Or (x :: y :: z :: r) pos => (chkP T N sc a).1 x && (chkP T N sc b).1 (.BoolOp .Or (y :: z :: r) pos)
    | _ => false, fun e => match e with
    | .BoolOp .Or [x, y] _ => (chkP T N sc a).2 x && (chkP T N sc b).2 y
    | .BoolOp .Or (x :: y :: z :: r) pos => (chkP T N sc a).2 x && (chkP T N sc b).2 (.BoolOp .Or (y :: z :: r) pos)
    | _ => false)
  | T, N, sc, .ite c a b => (fun e => match e with
    | .IfExp z x y _ => (chkP T N sc c).2 z && (chkP T N sc a).1 x && (chkP T N sc b).1 y
    | _ => false, fun _ => false)
  | T, N, sc, .tup es => dflC (fun e => match e with
    | .Tuple xs _ _ => decide (xs.length ≤ 1000) && chkA T N sc es xs
    | _ => false)
  | T, N, sc, .lst es => dflC (fun e => match e with
    | .List xs _ => decide (xs.length ≤ 1000) && chkA T N sc es xs
    | _ => false)
  | T, N, sc, .idx a i => dflC (fun e => match e with
    | .Subscript x y _ => (chkP T N sc a).1 x && (chkP T N sc i).1 y && nslice y
    | _ => false)
  | T, N, sc, .sl a lo hi => dflC (fun e => match e with
    | .Subscript x (.Slice l h none _) _ => (chkP T N sc a).1 x && chkO T N sc lo l && chkO T N sc hi h
    | _ => false)
  | T, N, sc, .step a k => dflC (fun e => match e with
    | .Subscript x (.Slice none none (some y) _) _ => (chkP T N sc a).1 x && (chkP T N sc k).1 y
    | _ => false)
  | T, N, sc, .lset a => dflC (fun e => match e with
    | .Call (.Name x _) [.Call (.Name y _) [z] [] _] [] _ => decide (x = "len") && bltB T sc x && decide (y = "set") && bltB T sc y && (chkP T N sc a).1 z && nstar z
    | _ => false)
  | T, N, sc, .dnil => dflC (fun e => match e with
    | .Dict [] [] _ => true
    | _ => false)
  | T, N, sc, .done a b => dflC (fun e => match e with
    | .Dict [some x] [y] _ => (chkP T N sc a).1 x && (chkP T N sc b).1 y
    | _ => false)
  | T, N, sc, .dput d a b => dflC (fun e => match e with
    | .Dict [none, some x] [z, y] _ => (chkP T N sc d).1 z && (chkP T N sc a).1 x && (chkP T N sc b).1 y
    | _ => false)
  | T, N, sc, .dtwo a b c d => dflC (fun e => match e with
    | .Dict [some x, some z] [y, u] _ => (chkP T N sc a).1 x && (chkP T N sc b).1 y && (chkP T N sc c).1 z && (chkP T N sc d).1 u
    | _ => false)
  | T, N, sc, .dmrg d a => dflC (fun e => match e with
    | .Dict [none, none] [z, y] _ => (chkP T N sc d).1 z && (chkP T N sc a).1 y
    | _ => false)
  | T, N, sc, .call g es => dflC (fun e => match e with
    | .Call (.Name x _) xs [] _ => glB sc x && nd x && (match T.fn g with
        | some (y, n) => decide (y = x) && decide (xs.length = n)
        | none => false) && chkA T N sc es xs
    | _ => false)
  | T, N, sc, .blt b es => dflC (fun e => match e with
    | .Call (.Name x _) (y :: ys) [] _ => decide (x = bname b) && bltB T sc x && chkB T N sc es (y :: ys)
    | _ => false)
  | T, N, sc, .isi a t => dflC (fun e => match e with
    | .Call (.Name x _) [y, .Name z _] [] _ => decide (x = "isinstance") && bltB T sc x && decide (z = tyS t) && bltB T sc z && (chkP T N sc a).1 y && nstar y
    | _ => false)
  | T, N, sc, .isx _ _ => dflC (fun e => false)
  | T, N, sc, .mth m a es => dflC (fun e => match e with
    | .Call (.Attribute x f ap) (y :: ys) [] cp => decide (f = mtS m) && (match m with
        | .index => true
        | .get => true
        | .count => true
        | _ => false) && (chkP T N sc a).1 x && chkA T N sc es (y :: ys) && nsuper x && (ap.endLine == cp.line) && decide ((y :: ys).length < 20)
    | _ => false)
  | T, N, sc, .lc t it e' => dflC (fun e => match e with
    | .ListComp elt [⟨tg, iter, [], 0⟩] scope _ => chkI T N sc it iter tg && nset iter && blkC N sc scope (ownOf N t.slots) && chkG N scope t tg && (chkP T.nolam N (relS scope sc) e').1 elt
    | _ => false)
  | T, N, sc, .lcif t it c e' => dflC (fun e => match e with
    | .ListComp elt [⟨tg, iter, [cnd], 0⟩] scope _ => chkI T N sc it iter tg && nset iter && blkC N sc scope (ownOf N t.slots) && chkG N scope t tg && (chkP T.nolam N (relS scope sc) c).2 cnd && (chkP T.nolam N (relS scope sc) e').1 elt
    | _ => false)
  | T, N, sc, .cup a b => dflC (fun e => match e with
    | .List [x, y] _ => (chkP T N sc a).1 x && (chkP T N sc b).1 y && nstar x && nstar y
    | _ => false)
  | T, N, sc, .lam _ e' => dflC (fun e => match e with
    | .Call (.Name x _) [.Lambda params body scope _] [] _ => T.lam && decide (x = "_law_try") && glB sc x && noPar params && LamX.lamSB sc scope && (chkP T.nolam N scope e').1 body
    | _ => false)
  | T, N, sc, .trg1 t a => dflC (fun e => match e with
    | .Call (.Name x _) [.Call (.Name y _) [z] [] _] [] _ => decide (x = if t then ("tuple" : Str) else "list") && bltB T sc x && decide (y = "range") && bltB T sc y && (chkP T N sc a).1 z && nstar z
    | _ => false)
  | T, N, sc, .trg3 a b c => dflC (fun e => match e with
    | .Call (.Name x _) [.Call (.Name y _) [z, w, u] [] _] [] _ => decide (x = "tuple") && bltB T sc x && decide (y = "range") && bltB T sc y && (chkP T N sc a).1 z && (chkP T N sc b).1 w && (chkP T N sc c).1 u && nstar z && nstar w && nstar u
    | _ => false)
  | T, N, sc, .trg2 t a b => dflC (fun e => match e with
    | .Call (.Name x _) [.Call (.Name y _) [z, w] [] _] [] _ => decide (x = if t then ("tuple" : Str) else "list") && bltB T sc x && decide (y = "range") && bltB T sc y && (chkP T N sc a).1 z && (chkP T N sc b).1 w && nstar z && nstar w
    | _ => false)
def chkA : Tab → List Str → Scope → Exs → List Expr → Bool
  | T, N, sc, .nil, es => match es with
    | [] => true
    | _ => false
  | T, N, sc, .cons a as, es => match es with
    | x :: xs => (chkP T N sc a).1 x && nstar x && chkA T N sc as xs
    | _ => false
def chkB : Tab → List Str → Scope → Exs → List Expr → Bool
  | T, N, sc, .nil, es => match es with
    | [] => true
    | _ => false
  | T, N, sc, .cons a as, es => match es with
    | x :: xs => (chkP T N sc a).1 x && nstar x && chkB T N sc as xs
    | _ => false
def chkO : Tab → List Str → Scope → Opt → Option Expr → Bool
  | T, N, sc, .no, e => match e with
    | none => true
    | _ => false
  | T, N, sc, .some a, e => match e with
    | some x => (chkP T N sc a).1 x
    | _ => false
/-- what is walked, for a target -/
def chkI : Tab → List Str → Scope → Itr → Expr → Expr → Bool
  | T, N, sc, .val a, e, tg => (chkP T N sc a).1 e
  | T, N, sc, .rng1 a, e, tg => match e with
    | .Call (.Name x _) [y] [] _ => decide (x = "range") && bltB T sc x && (chkP T N sc a).1 y && nstar y
    | _ => false
  | T, N, sc, .rng2 a b, e, tg => match e with
    | .Call (.Name x _) [y, z] [] _ => decide (x = "range") && bltB T sc x && (chkP T N sc a).1 y && (chkP T N sc b).1 z && nstar y && nstar z
    | _ => false
  | T, N, sc, .enum a, e, tg => match e with
    | .Call (.Name x _) [y] [] _ => decide (x = "enumerate") && bltB T sc x && (chkP T N sc a).1 y && nstar y && (match tg with
        | .Tuple _ _ _ => true
        | _ => false)
    | _ => false
  | T, N, sc, .zip a b, e, tg => match e with
    | .Call (.Name x _) [y, z] [] _ => decide (x = "zip") && bltB T sc x && (chkP T N sc a).1 y && (chkP T N sc b).1 z && nstar y && nstar z && (match tg with
        | .Tuple _ _ _ => true
        | _ => false)
    | _ => false
  | T, N, sc, .items _, e, tg => false
end
section
variable (T : Tab) (N : List Str)
def chkE (sc : Scope) (a : Ex) (e : Expr) : Bool := (chkP T N sc a).1 e
def chkT (sc : Scope) (a : Ex) (e : Expr) : Bool := (chkP T N sc a).2 e
end

/-! ### what the context must show -/
/-- the promise of a def whose meaning is m -/
def spF (K : PySem.W.Frag) (mg : Str → Option Value) (m : List D → M D) : Sp := fun vs H Q E => ∃ (G : Gh) (ds : List D) (c : Cup), DenL K G H vs ds ∧ Trk G H ∧ CupR G H c ∧ G.T = tabK K ∧
  match m ds c with
  | .ok d c' => ∀ v H' G', Ext G H G' H' → Trk G' H' → CupR G' H' c' → Den K G' H' v d → Q v H'
  | .exc k c' => ∀ cv dx H' G', Ext G H G' H' → Trk G' H' → CupR G' H' c' → IsKm mg k cv dx → E cv dx H'
  | .stuck => False
structure FnAt (X : Cx) (x : Str) (n : Nat) (m : List D → M D) : Prop where
  ex : ∃ (k : Nat) (f : Addr) (fd : FuncData) (ps : List Str), FnOk X.prog X.w X.K X.mg X.base (L2.CX X.prog X.w) k f fd ps (spF X.K X.mg m) ∧ Room k X.A ∧ X.mg x = some (.ref f) ∧ PySem.W.keepIn X.K (.ref f) = true ∧ L2.Binds X.K fd ps [] ∧ ps.length = n
structure Callee (P : Program) (w : World) (K : PySem.W.Frag) (mg : Str → Option Value) (base : Heap) (k : Nat) (x : Str) (n : Nat) (m : List D → M D) : Prop where
  ex : ∃ (f : Addr) (fd : FuncData) (ps : List Str), FnOk P w K mg base (L2.CX P w) k f fd ps (spF K mg m) ∧ mg x = some (.ref f) ∧ PySem.W.keepIn K (.ref f) = true ∧ L2.Binds K fd ps [] ∧ ps.length = n
end PF
end

/-! ## PfS7 -/
section
/-! PfS7: expressions are as the evaluator says, part by part. -/
set_option linter.all false
set_option autoImplicit false
namespace PF
open PySem L2

theorem star_cons {e : Expr} {es : List Expr} {env : PySem.Env} (h : nstar e = true) : starEach (e :: es) env = (false, eval e env) :: starEach es env := by
  cases e <;> first | rfl | cases h
theorem back_plain {pos : Pos} {env : PySem.Env} : ∀ {es : List Expr}, es.all nstar = true → (backTo pos (starEach es env)).any (·.1) = false
  | [], _ => rfl
  | e :: es, h => by
    rw [List.all_cons, Bool.and_eq_true] at h
    rw [star_cons h.1]
    show (false || (backTo pos (starEach es env)).any (·.1)) = false
    rw [back_plain h.2]
    rfl
theorem back_all {pos : Pos} {env : PySem.Env} : ∀ {es : List Expr}, es.all nstar = true → (backTo pos (starEach es env)).all (fun x => !x.1) = true
  | [], _ => rfl
  | e :: es, h => by
    rw [List.all_cons, Bool.and_eq_true] at h
    rw [star_cons h.1]
    show (true && (backTo pos (starEach es env)).all (fun x => !x.1)) = true
    rw [back_all h.2]
    rfl
theorem fold_plain {e : Expr} {env : PySem.Env} (h : nset e = true) : ∀ x, foldedSetIterable e env x = pure x := by
  cases e <;> first | (intro x; rfl) | cases h
theorem mark_plain {op : CmpOp} {e : Expr} (h : nset e = true) : behindInMarks op e = false := by
  cases e <;> first | rfl | cases h
theorem base_plain {o : Expr} {f : Str} {env : PySem.Env} (h : nsuper o = true) : attributeBase o f env (eval o env) = eval o env := by
  unfold attributeBase
  unfold nsuper at h
  split
  · simp at h
  · rfl
theorem ix_plain {e : Expr} (h : nslice e = true) : PlainIx e := by
  intro o i
  cases e <;> first | rfl | cases h
theorem test_plain {e : Expr} {env : PySem.Env} (h : plainT e = true) : ∀ whole, isTrue e env whole = (do let v ← whole; standAt e.pos; holding [v] (truthy v)) := by
  intro whole
  cases e with
  | UnaryOp op a p => cases op <;> first | rfl | cases h
  | BoolOp op a p => cases h
  | IfExp a b c p => cases h
  | Compare a b c p => cases h
  | _ => rfl

section
variable {X : Cx} {W : WX} {sc : Scope}
theorem gl_of {x : Str} (hs : X.env.scope = sc) (h : glB sc x = true) : Gl X x := by
  show X.env.scope.names.lookup x = some .globalImplicit
  rw [hs]
  unfold glB at h
  split at h
  · assumption
  · cases h
theorem vis_of {x : Str} (hs : X.env.scope = sc) (h : visB sc x = true) : Vis X.env.scope x := by
  rw [hs]
  unfold visB at h
  split at h
  · exact .inl (by assumption)
  · exact .inr (.inl (by assumption))
  · exact .inr (.inr (by assumption))
  · cases h
theorem nd_of {x : Str} (h : nd x = true) : (x == ("__debug__" : Str)) = false := by
  unfold nd at h
  simpa using h
theorem var_of {N : List Str} {e : Expr} {i : Nat} (hN : X.N = N) (hs : X.env.scope = sc) (h : varB N sc e i = true) : ∃ x pos, e = .Name x pos ∧ PE X e (tVar i) := by
  unfold varB at h
  split at h
  · rename_i x pos
    simp only [Bool.and_eq_true, decide_eq_true_eq, Bool.not_eq_true'] at h
    obtain ⟨⟨⟨h1, h2⟩, h3⟩, h4⟩ := h
    exact ⟨x, pos, rfl, pe_var (by rw [hN]; exact h1) (vis_of hs h2) (nd_of h3) h4⟩
  · cases h

theorem se_var {N : List Str} {e : Expr} {i : Nat} (hN : X.N = N) (hs : X.env.scope = sc) (h : varB N sc e i = true) : SE X W e fun ρ => M.lift (getV ρ i) := by
  obtain ⟨x, pos, rfl, hp⟩ := var_of hN hs h
  refine ⟨_, hp, fun σ H G ρ c Q a p => ?_⟩
  obtain ⟨d, e, k⟩ := p.lift1
  obtain ⟨v, h1, h2⟩ := a.sh i d (getV_some e)
  exact ⟨v, h1, k v H G (Ext.refl G H) a.trk a.cup h2⟩
theorem sb_var {N : List Str} {e : Expr} {i : Nat} (hN : X.N = N) (hs : X.env.scope = sc) (h : varB N sc e i = true) : SB X W e fun ρ => M.lift (getB ρ i) := by
  obtain ⟨x, pos, rfl, hp⟩ := var_of hN hs h
  refine ⟨_, hp, fun σ H G ρ c Q a p => ?_⟩
  obtain ⟨d, e, k⟩ := p.lift1
  obtain ⟨v, h1, h2⟩ := a.getB e
  exact ⟨v, h1, k v H G (Ext.refl G H) a.trk a.cup h2⟩
/-- an expression that only reads, from the expression -/
theorem sb_bor {T : Tab} {N : List Str} {kin : Nat → Str → Option Str} {Φ : Orc} {ir : Ex} {e : Expr} (hN : X.N = N) (hs : X.env.scope = sc) (h : chkE T N sc ir e = true) (se : SE X W e (evE kin Φ ir)) : SB X W e fun ρ => bor ρ (evE kin Φ ir ρ) ir := by
  cases ir with
  | var i => exact sb_var hN hs h
  | _ => exact se.sb
theorem se_const {d : D} {e : Expr} {v : V} (h : PE X e (tC v)) (hd : ∀ K G H, Den K G H v d) : SE X W e fun _ => M.pure d :=
  ⟨_, h, fun σ H G ρ c Q a p => p v H G (Ext.refl G H) a.trk a.cup (hd _ _ _)⟩
theorem den_k (k : Kst) (K : PySem.W.Frag) (G : Gh) (H : Hp) : Den K G H (kV k) k.d := by
  cases k <;> rfl
theorem se_cst {k : Kst} {c : Const} {j : Nat} {pos : Pos} (h : kstB k c = true) : SE X W (.Constant c j pos) fun _ => M.pure k.d := by
  refine se_const (v := kV k) ?_ (den_k k)
  cases k <;> cases c <;> simp only [kstB, Bool.false_eq_true, beq_iff_eq, decide_eq_true_eq] at h
  · exact pe_non
  · subst h; exact pe_bl
  · subst h; exact pe_int
  · subst h; exact pe_str
theorem se_cmp {a b : Expr} {ma mb : PF.Env → M D} {pos : Pos} {o : Cop} (hu : X.A.units + 65 < cLine) (ha : SB X W a ma) (hb : SB X W b mb) (hm : behindInMarks (acop o) b = false) :
    SE X W (.Compare a [acop o] [b] pos) fun ρ => M.bind (ma ρ) fun x => M.bind (mb ρ) fun y => M.bind (M.lift (opC o x y)) fun b => M.pure (.bl b) := by
  obtain ⟨r, ho, hr⟩ := opC_ok hu o
  obtain ⟨ta, a1, a2⟩ := ha
  obtain ⟨tb, b1, b2⟩ := hb
  refine ⟨_, pe_cmpR ho a1 b1 hm, fun σ H G ρ c Q at0 p => ?_⟩
  refine a2 σ H G ρ c _ at0 (p.bind fun x c1 v H1 G1 e1 t1 q1 r1 p1 => ?_)
  refine b2 σ H1 G1 ρ c1 _ (at0.stay e1 t1 q1) (p1.bind fun y c2 u H2 G2 e2 t2 q2 r2 p2 => ?_)
  obtain ⟨z, ez, p3⟩ := p2.lift
  exact hr G2 H2 v u x y z Q (r1.stay e2) r2 ez (p3 (.bl z) H2 G2 (Ext.refl _ _) t2 q2 rfl)
theorem st_cmp {a b : Expr} {ma mb : PF.Env → M D} {pos : Pos} {o : Cop} (hu : X.A.units + 65 < cLine) (ha : SB X W a ma) (hb : SB X W b mb) (hm : behindInMarks (acop o) b = false) :
    ST X W (.Compare a [acop o] [b] pos) fun ρ => M.bind (ma ρ) fun x => M.bind (mb ρ) fun y => M.lift (opC o x y) := by
  obtain ⟨r, ho, hr⟩ := opC_ok hu o
  obtain ⟨ta, a1, a2⟩ := ha
  obtain ⟨tb, b1, b2⟩ := hb
  refine ⟨_, pt_cmpR ho a1 b1 hm, fun σ H G ρ c Q at0 p => ?_⟩
  refine a2 σ H G ρ c _ at0 (p.bind fun x c1 v H1 G1 e1 t1 q1 r1 p1 => ?_)
  refine b2 σ H1 G1 ρ c1 _ (at0.stay e1 t1 q1) (p1.bind fun y c2 u H2 G2 e2 t2 q2 r2 p2 => ?_)
  obtain ⟨z, ez, k⟩ := p2.lift1
  exact hr G2 H2 v u x y z _ (r1.stay e2) r2 ez ⟨z, rfl, k z H2 G2 (Ext.refl _ _) t2 q2 rfl⟩
theorem se_chain {a b d : Expr} {ma mb md : PF.Env → M D} {pos : Pos} {o1 o2 : Cop} (hu : X.A.units + 65 < cLine) (ha : SE X W a ma) (hb : SE X W b mb) (hd : SE X W d md) (hm : behindInMarks (acop o2) d = false) :
    SE X W (.Compare a [acop o1, acop o2] [b, d] pos) fun ρ => M.bind (ma ρ) fun x => M.bind (mb ρ) fun y => M.bind (M.lift (opC o1 x y)) fun k =>
      if k then M.bind (md ρ) fun z => M.bind (M.lift (opC o2 y z)) fun b => M.pure (.bl b) else M.pure (.bl false) := by
  obtain ⟨r, ho, hr⟩ := opC_ok hu o1
  obtain ⟨r', ho', hr'⟩ := opC_ok hu o2
  obtain ⟨ta, a1, a2⟩ := ha
  obtain ⟨tb, b1, b2⟩ := hb
  obtain ⟨td, d1, d2⟩ := hd
  refine ⟨_, pe_chain ho ho' a1 b1 d1 (by unfold lastMarks; unfold lastMarks; exact hm), fun σ H G ρ c Q at0 p => ?_⟩
  refine a2 σ H G ρ c _ at0 (p.bind fun x c1 v H1 G1 e1 t1 q1 r1 p1 => ?_)
  refine b2 σ H1 G1 ρ c1 _ (at0.stay e1 t1 q1) (p1.bind fun y c2 u H2 G2 e2 t2 q2 r2 p2 => ?_)
  obtain ⟨z, ez, p3⟩ := p2.lift
  refine hr G2 H2 v u x y z _ (r1.stay e2.stb).bor r2.bor ez ⟨z, rfl, ?_⟩
  cases z with
  | false =>
    rw [if_neg Bool.false_ne_true] at p3 ⊢
    exact p3 (.bl false) H2 G2 (Ext.refl _ _) t2 q2 rfl
  | true =>
    rw [if_pos rfl] at p3 ⊢
    refine d2 σ H2 G2 ρ c2 _ ((at0.stay e1 t1 q1).stay e2 t2 q2) (p3.bind fun w c3 v3 H3 G3 e3 t3 q3 r3 p4 => ?_)
    obtain ⟨z', ez', p5⟩ := p4.lift
    exact hr' G3 H3 u v3 y w z' Q (r2.stay e3.stb).bor r3.bor ez' (p5 (.bl z') H3 G3 (Ext.refl _ _) t3 q3 rfl)
theorem st_chain {a b d : Expr} {ma mb md : PF.Env → M D} {pos : Pos} {o1 o2 : Cop} (hu : X.A.units + 65 < cLine) (ha : SE X W a ma) (hb : SE X W b mb) (hd : SE X W d md) (hm : behindInMarks (acop o2) d = false) :
    ST X W (.Compare a [acop o1, acop o2] [b, d] pos) fun ρ => M.bind (ma ρ) fun x => M.bind (mb ρ) fun y => M.bind (M.lift (opC o1 x y)) fun k =>
      if k then M.bind (md ρ) fun z => M.lift (opC o2 y z) else M.pure false := by
  obtain ⟨r, ho, hr⟩ := opC_ok hu o1
  obtain ⟨r', ho', hr'⟩ := opC_ok hu o2
  obtain ⟨ta, a1, a2⟩ := ha
  obtain ⟨tb, b1, b2⟩ := hb
  obtain ⟨td, d1, d2⟩ := hd
  refine ⟨_, pt_chain ho ho' a1 b1 d1 (by unfold lastMarks; unfold lastMarks; exact hm), fun σ H G ρ c Q at0 p => ?_⟩
  refine a2 σ H G ρ c _ at0 (p.bind fun x c1 v H1 G1 e1 t1 q1 r1 p1 => ?_)
  refine b2 σ H1 G1 ρ c1 _ (at0.stay e1 t1 q1) (p1.bind fun y c2 u H2 G2 e2 t2 q2 r2 p2 => ?_)
  obtain ⟨z, ez, p3⟩ := p2.lift
  refine hr G2 H2 v u x y z _ (r1.stay e2.stb).bor r2.bor ez ⟨z, rfl, ?_⟩
  cases z with
  | false =>
    rw [if_neg Bool.false_ne_true] at p3 ⊢
    exact ⟨false, rfl, p3 false H2 G2 (Ext.refl _ _) t2 q2 rfl⟩
  | true =>
    rw [if_pos rfl] at p3 ⊢
    refine d2 σ H2 G2 ρ c2 _ ((at0.stay e1 t1 q1).stay e2 t2 q2) (p3.bind fun w c3 v3 H3 G3 e3 t3 q3 r3 p4 => ?_)
    obtain ⟨z', ez', k⟩ := p4.lift1
    exact hr' G3 H3 u v3 y w z' _ (r2.stay e3.stb).bor r3.bor ez' ⟨z', rfl, k z' H3 G3 (Ext.refl _ _) t3 q3 rfl⟩
theorem se_neg {a : Expr} {ma : PF.Env → M D} {pos : Pos} (ha : SE X W a ma) : SE X W (.UnaryOp .USub a pos) fun ρ => M.bind (ma ρ) fun x => M.bind (M.lift (asInt x)) fun i => M.pure (.int (-i)) := by
  obtain ⟨ta, a1, a2⟩ := ha
  refine ⟨_, pe_un un_neg a1, fun σ H G ρ c Q at0 p => ?_⟩
  refine a2 σ H G ρ c _ at0 (p.bind fun x c1 v H1 G1 e1 t1 q1 r1 p1 => ?_)
  obtain ⟨i, ei, p2⟩ := p1.lift
  cases x <;> simp [asInt] at ei
  subst ei
  cases show v = .int _ from r1
  exact ⟨_, rfl, p2 _ H1 G1 (Ext.refl _ _) t1 q1 rfl⟩
theorem tru_of {K : PySem.W.Frag} {G : Gh} {H : Hp} {v : V} {d : D} {k : Bool} (h : Bor K G H v d) (e : truth d = some k) : TruV K v H k := by
  cases d <;> simp only [truth, reduceCtorEq, Option.some.injEq] at e
  · cases show v = .non from h; exact e.symm
  · cases show v = .bl _ from h; exact e.symm
  · cases show v = .int _ from h; exact e.symm
  · obtain ⟨a, vs, o1, rfl, na, h1, d1, h2⟩ := h
    refine .inr (.inl ⟨vs, sqT h1, ?_⟩)
    rw [← e]
    rename_i xs
    cases vs <;> cases xs <;> first | rfl | exact h2.elim
  · obtain ⟨a, vs, rfl, na, h1, h2⟩ := h
    refine .inl ⟨vs, .of h1, ?_⟩
    rw [← e]
    rename_i xs
    cases vs <;> cases xs <;> first | rfl | exact h2.elim
theorem se_not {a : Expr} {ma : PF.Env → M D} {pos : Pos} (ha : SB X W a ma) : SE X W (.UnaryOp .Not a pos) fun ρ => M.bind (ma ρ) fun x => M.bind (M.lift (truth x)) fun b => M.pure (.bl (!b)) := by
  obtain ⟨ta, a1, a2⟩ := ha
  refine ⟨_, pe_notT a1, fun σ H G ρ c Q at0 p => ?_⟩
  refine a2 σ H G ρ c _ at0 (p.bind fun x c1 v H1 G1 e1 t1 q1 r1 p1 => ?_)
  obtain ⟨k, ek, p2⟩ := p1.lift
  exact ⟨k, tru_of r1 ek, p2 _ H1 G1 (Ext.refl _ _) t1 q1 rfl⟩
theorem st_plain {a : Expr} {ma : PF.Env → M D} (ha : SB X W a ma) (hp : plainT a = true) : ST X W a fun ρ => M.bind (ma ρ) fun x => M.lift (truth x) := by
  obtain ⟨ta, a1, a2⟩ := ha
  refine ⟨_, pt_truth a1 (test_plain hp), fun σ H G ρ c Q at0 p => ?_⟩
  refine a2 σ H G ρ c _ at0 (p.bind fun x c1 v H1 G1 e1 t1 q1 r1 p1 => ?_)
  obtain ⟨k, ek, p2⟩ := p1.lift1
  exact ⟨k, tru_of r1 ek, p2 _ H1 G1 (Ext.refl _ _) t1 q1 rfl⟩
theorem st_not {a : Expr} {ma : PF.Env → M Bool} {pos : Pos} (ha : ST X W a ma) : ST X W (.UnaryOp .Not a pos) fun ρ => M.bind (ma ρ) fun b => M.pure (!b) := by
  obtain ⟨ta, a1, a2⟩ := ha
  refine ⟨_, pt_not a1, fun σ H G ρ c Q at0 p => ?_⟩
  refine a2 σ H G ρ c _ at0 (p.bind fun x c1 v H1 G1 e1 t1 q1 r1 p1 => ?_)
  subst r1
  exact p1 _ H1 G1 (Ext.refl _ _) t1 q1 rfl
end
end PF
end

/-! ## PfS8 -/
section
/-! PfS8: expressions, further parts. -/
set_option linter.all false
set_option autoImplicit false
namespace PF
open PySem L2

theorem M.bind_assoc {α β γ : Type} (m : M α) (f : α → M β) (g : β → M γ) : M.bind (M.bind m f) g = M.bind m fun x => M.bind (f x) g := by
  funext c
  unfold M.bind
  cases m c <;> rfl
theorem M.pure_bind {α β : Type} (a : α) (f : α → M β) : M.bind (M.pure a) f = f a := rfl
theorem M.stuck_bind {α β : Type} (f : α → M β) : M.bind (M.stuck : M α) f = M.stuck := rfl
theorem M.ite_bind {α β : Type} (b : Bool) (m n : M α) (f : α → M β) : M.bind (if b = true then m else n) f = if b = true then M.bind m f else M.bind n f := by
  cases b <;> rfl

section
variable {X : Cx} {W : WX} {sc : Scope}
theorem se_and {a b : Expr} {ma mb : PF.Env → M D} {r : List Expr} {pos : Pos} (ha : SE X W a ma) (hb : SE X W (.BoolOp .And (b :: r) pos) mb) :
    SE X W (.BoolOp .And (a :: b :: r) pos) fun ρ => M.bind (ma ρ) fun x => M.bind (M.lift (asBl x)) fun k => if k then mb ρ else M.pure (.bl false) := by
  obtain ⟨ta, a1, a2⟩ := ha
  obtain ⟨tb, b1, b2⟩ := hb
  refine ⟨_, pe_and a1 b1, fun σ H G ρ c Q at0 p => ?_⟩
  refine a2 σ H G ρ c _ at0 (p.bind fun x c1 v H1 G1 e1 t1 q1 r1 p1 => ?_)
  obtain ⟨k, ek, p2⟩ := p1.lift
  cases x <;> simp [asBl] at ek
  subst ek
  cases show v = .bl _ from r1
  refine ⟨_, rfl, ?_⟩
  split
  · rename_i hk
    rw [if_pos hk] at p2
    exact b2 σ H1 G1 ρ c1 Q (at0.stay e1 t1 q1) p2
  · rename_i hk
    rw [if_neg hk] at p2
    exact p2 _ H1 G1 (Ext.refl _ _) t1 q1 rfl
theorem se_or {a b : Expr} {ma mb : PF.Env → M D} {r : List Expr} {pos : Pos} (ha : SE X W a ma) (hb : SE X W (.BoolOp .Or (b :: r) pos) mb) :
    SE X W (.BoolOp .Or (a :: b :: r) pos) fun ρ => M.bind (ma ρ) fun x => M.bind (M.lift (asBl x)) fun k => if k then M.pure (.bl true) else mb ρ := by
  obtain ⟨ta, a1, a2⟩ := ha
  obtain ⟨tb, b1, b2⟩ := hb
  refine ⟨_, pe_or a1 b1, fun σ H G ρ c Q at0 p => ?_⟩
  refine a2 σ H G ρ c _ at0 (p.bind fun x c1 v H1 G1 e1 t1 q1 r1 p1 => ?_)
  obtain ⟨k, ek, p2⟩ := p1.lift
  cases x <;> simp [asBl] at ek
  subst ek
  cases show v = .bl _ from r1
  refine ⟨_, rfl, ?_⟩
  split
  · rename_i hk
    rw [if_pos hk] at p2
    exact p2 _ H1 G1 (Ext.refl _ _) t1 q1 rfl
  · rename_i hk
    rw [if_neg hk] at p2
    exact b2 σ H1 G1 ρ c1 Q (at0.stay e1 t1 q1) p2
theorem se_one {op : PySem.BoolOp} {a : Expr} {ma : PF.Env → M D} {pos : Pos} (ha : SE X W a ma) : SE X W (.BoolOp op [a] pos) ma := by
  obtain ⟨ta, a1, a2⟩ := ha
  exact ⟨_, pe_one a1, a2⟩
/-- a test, and what and, or ask of it -/
def ST2 (X : Cx) (W : WX) (e : Expr) (m : PF.Env → M Bool) : Prop := ∃ t, PT X e t ∧ ((∃ op vs pos, e = .BoolOp op vs pos) → L2.PW X e t) ∧ ∀ σ H G ρ c Q, At X.K G H σ ρ c → Post X W σ (fun _ _ b b' => b = b') G H (m ρ c) Q → t σ H Q
theorem ST.two {e : Expr} {m : PF.Env → M Bool} (h : ST X W e m) (hn : ∀ op vs pos, e ≠ .BoolOp op vs pos) : ST2 X W e m := by
  obtain ⟨t, h1, h2⟩ := h
  exact ⟨t, h1, fun ⟨op, vs, pos, z⟩ => absurd z (hn op vs pos), h2⟩
theorem ST2.one {e : Expr} {m : PF.Env → M Bool} (h : ST2 X W e m) : ST X W e m := by
  obtain ⟨t, h1, _, h2⟩ := h
  exact ⟨t, h1, h2⟩
theorem st_and {a b : Expr} {ma mb : PF.Env → M Bool} {r : List Expr} {pos : Pos} {tb : TT} (ha : ST X W a ma) (b1 : L2.PW X (.BoolOp .And (b :: r) pos) tb)
    (b2 : ∀ σ H G ρ c Q, At X.K G H σ ρ c → Post X W σ (fun _ _ b b' => b = b') G H (mb ρ c) Q → tb σ H Q) :
    ST2 X W (.BoolOp .And (a :: b :: r) pos) fun ρ => M.bind (ma ρ) fun k => if k then mb ρ else M.pure false := by
  obtain ⟨ta, a1, a2⟩ := ha
  refine ⟨_, (pw_and a1 b1).pt, fun _ => pw_and a1 b1, fun σ H G ρ c Q at0 p => ?_⟩
  refine a2 σ H G ρ c _ at0 (p.bind fun x c1 v H1 G1 e1 t1 q1 r1 p1 => ?_)
  subst r1
  split
  · rename_i hk
    rw [if_pos hk] at p1
    exact b2 σ H1 G1 ρ c1 Q (at0.stay e1 t1 q1) p1
  · rename_i hk
    rw [if_neg hk] at p1
    exact p1 _ H1 G1 (Ext.refl _ _) t1 q1 rfl
theorem st_or {a b : Expr} {ma mb : PF.Env → M Bool} {r : List Expr} {pos : Pos} {tb : TT} (ha : ST X W a ma) (b1 : L2.PW X (.BoolOp .Or (b :: r) pos) tb)
    (b2 : ∀ σ H G ρ c Q, At X.K G H σ ρ c → Post X W σ (fun _ _ b b' => b = b') G H (mb ρ c) Q → tb σ H Q) :
    ST2 X W (.BoolOp .Or (a :: b :: r) pos) fun ρ => M.bind (ma ρ) fun k => if k then M.pure true else mb ρ := by
  obtain ⟨ta, a1, a2⟩ := ha
  refine ⟨_, (pw_or a1 b1).pt, fun _ => pw_or a1 b1, fun σ H G ρ c Q at0 p => ?_⟩
  refine a2 σ H G ρ c _ at0 (p.bind fun x c1 v H1 G1 e1 t1 q1 r1 p1 => ?_)
  subst r1
  split
  · rename_i hk
    rw [if_pos hk] at p1
    exact p1 _ H1 G1 (Ext.refl _ _) t1 q1 rfl
  · rename_i hk
    rw [if_neg hk] at p1
    exact b2 σ H1 G1 ρ c1 Q (at0.stay e1 t1 q1) p1
theorem se_ite {c a b : Expr} {mc : PF.Env → M Bool} {ma mb : PF.Env → M D} {pos : Pos} (hc : ST X W c mc) (ha : SE X W a ma) (hb : SE X W b mb) :
    SE X W (.IfExp c a b pos) fun ρ => M.bind (mc ρ) fun k => if k then ma ρ else mb ρ := by
  obtain ⟨tc, c1, c2⟩ := hc
  obtain ⟨ta, a1, a2⟩ := ha
  obtain ⟨tb, b1, b2⟩ := hb
  refine ⟨_, pe_ifExp c1 a1 b1, fun σ H G ρ c Q at0 p => ?_⟩
  refine c2 σ H G ρ c _ at0 (p.bind fun x c1 v H1 G1 e1 t1 q1 r1 p1 => ?_)
  subst r1
  split
  · rename_i hk
    rw [if_pos hk] at p1
    exact a2 σ H1 G1 ρ c1 Q (at0.stay e1 t1 q1) p1
  · rename_i hk
    rw [if_neg hk] at p1
    exact b2 σ H1 G1 ρ c1 Q (at0.stay e1 t1 q1) p1
/-! ### arguments -/
theorem sa_nil : SA X W [] fun _ => M.pure [] := ⟨_, pa_nil, fun σ H G ρ c Q a p => p [] H G (Ext.refl G H) a.trk a.cup True.intro⟩
theorem sa_cons {e : Expr} {es : List Expr} {m : PF.Env → M D} {ms : PF.Env → M (List D)} (hn : nstar e = true) (he : SE X W e m) (hs : SA X W es ms) :
    SA X W (e :: es) fun ρ => M.bind (m ρ) fun x => M.bind (ms ρ) fun xs => M.pure (x :: xs) := by
  obtain ⟨ta, a1, a2⟩ := he
  obtain ⟨tb, b1, b2⟩ := hs
  refine ⟨_, pa_cons a1 b1 (star_cons hn), fun σ H G ρ c Q at0 p => ?_⟩
  refine a2 σ H G ρ c _ at0 (p.bind fun x c1 v H1 G1 e1 t1 q1 r1 p1 => ?_)
  refine b2 σ H1 G1 ρ c1 _ (at0.stay e1 t1 q1) (p1.bind fun y c2 u H2 G2 e2 t2 q2 r2 p2 => ?_)
  exact p2 _ H2 G2 (Ext.refl _ _) t2 q2 ⟨r1.stay e2.stb, r2⟩
theorem sab_nil : SAB X W [] fun _ => M.pure [] := ⟨_, pa_nil, fun σ H G ρ c Q a p => p [] H G (Ext.refl G H) a.trk a.cup True.intro⟩
theorem sab_cons {e : Expr} {es : List Expr} {m : PF.Env → M D} {ms : PF.Env → M (List D)} (hn : nstar e = true) (he : SB X W e m) (hs : SAB X W es ms) :
    SAB X W (e :: es) fun ρ => M.bind (m ρ) fun x => M.bind (ms ρ) fun xs => M.pure (x :: xs) := by
  obtain ⟨ta, a1, a2⟩ := he
  obtain ⟨tb, b1, b2⟩ := hs
  refine ⟨_, pa_cons a1 b1 (star_cons hn), fun σ H G ρ c Q at0 p => ?_⟩
  refine a2 σ H G ρ c _ at0 (p.bind fun x c1 v H1 G1 e1 t1 q1 r1 p1 => ?_)
  refine b2 σ H1 G1 ρ c1 _ (at0.stay e1 t1 q1) (p1.bind fun y c2 u H2 G2 e2 t2 q2 r2 p2 => ?_)
  exact p2 _ H2 G2 (Ext.refl _ _) t2 q2 ⟨r1.stay e2, r2⟩
theorem so_no : SO X W none fun _ => M.pure none := ⟨_, po_none, fun σ H G ρ c Q a p => p none H G (Ext.refl G H) a.trk a.cup rfl⟩
theorem so_some {e : Expr} {m : PF.Env → M D} (he : SE X W e m) : SO X W (some e) fun ρ => M.bind (m ρ) fun x => M.bind (M.lift (asInt x)) fun i => M.pure (some i) := by
  obtain ⟨ta, a1, a2⟩ := he
  refine ⟨_, po_some a1, fun σ H G ρ c Q at0 p => ?_⟩
  refine a2 σ H G ρ c _ at0 (p.bind fun x c1 v H1 G1 e1 t1 q1 r1 p1 => ?_)
  obtain ⟨i, ei, p2⟩ := p1.lift
  cases x <;> simp [asInt] at ei
  subst ei
  exact ⟨_, r1, p2 _ H1 G1 (Ext.refl _ _) t1 q1 rfl⟩
/-! ### displays, items, slices -/
theorem line1000 {n : Nat} (h : n ≤ 1000) : n ≤ sizeLine := Nat.le_trans h (by decide)
theorem evA_len {kin : Nat → Str → Option Str} {Φ : Orc} : ∀ {es : Exs} {xs : List Expr} {T : Tab} {N : List Str} {sc : Scope} {ρ : PF.Env} {c c' : Cup} {ds : List D}, chkA T N sc es xs = true → evA kin Φ es ρ c = .ok ds c' → ds.length = xs.length
  | .nil, xs, T, N, sc, ρ, c, c', ds, h, e => by
    cases xs with
    | nil =>
      simp only [evA, M.pure, Res.ok.injEq] at e
      rw [← e.1]
      rfl
    | cons => simp [chkA] at h
  | .cons a as, xs, T, N, sc, ρ, c, c', ds, h, e => by
    cases xs with
    | nil => simp [chkA] at h
    | cons x xs =>
      simp only [chkA, Bool.and_eq_true] at h
      simp only [evA, M.bind] at e
      cases q : (evP kin Φ a).1 ρ c with
      | ok d c1 =>
        rw [q] at e
        simp only at e
        cases q2 : evA kin Φ as ρ c1 with
        | ok ds2 c2 =>
          rw [q2] at e
          cases e
          rw [List.length_cons, List.length_cons, evA_len h.2 q2]
        | exc => rw [q2] at e; cases e
        | stuck => rw [q2] at e; cases e
      | exc => rw [q] at e; cases e
      | stuck => rw [q] at e; cases e
theorem se_tup {xs : List Expr} {ms : PF.Env → M (List D)} {k : Nat} {pos : Pos} (hl : ∀ ρ c c' ds, ms ρ c = .ok ds c' → ds.length ≤ 1000) (ha : SA X W xs ms) : SE X W (.Tuple xs k pos) fun ρ => M.bind (ms ρ) fun ds => M.pure (.tup ds) := by
  obtain ⟨ta, a1, a2⟩ := ha
  refine ⟨_, pe_tupF a1, fun σ H G ρ c Q at0 p => ?_⟩
  refine a2 σ H G ρ c _ at0 (p.bindE fun ds c1 e vs H1 G1 e1 t1 q1 r1 p1 => ?_)
  exact ⟨by rw [r1.length]; exact line1000 (hl _ _ _ _ e), Go.tup (c := c1) p1 t1 q1 r1⟩
theorem se_lst {xs : List Expr} {ms : PF.Env → M (List D)} {pos : Pos} (hl : ∀ ρ c c' ds, ms ρ c = .ok ds c' → ds.length ≤ 1000) (ha : SA X W xs ms) : SE X W (.List xs pos) fun ρ => M.bind (ms ρ) fun ds => M.pure (.lst ds) := by
  obtain ⟨ta, a1, a2⟩ := ha
  refine ⟨_, pe_lst a1, fun σ H G ρ c Q at0 p => ?_⟩
  refine a2 σ H G ρ c _ at0 (p.bindE fun ds c1 e vs H1 G1 e1 t1 q1 r1 p1 => ?_)
  exact ⟨by rw [r1.length]; exact line1000 (hl _ _ _ _ e), Go.lst (c := c1) p1 t1 q1 r1⟩
theorem withCup_post {α ω : Type} {σ : L2.St} {R : Gh → Hp → ω → α → Prop} {G : Gh} {H : Hp} {f : Cup → Option α} {c : Cup} {Q : ω → Hp → Prop} (p : Post X W σ R G H (withCup f c) Q) :
    ∃ a, f c = some a ∧ ∀ v H' G', Ext G H G' H' → Trk G' H' → CupR G' H' c → R G' H' v a → Q v H' := by
  unfold withCup at p
  cases e : f c with
  | none => rw [e] at p; exact p.elim
  | some a => rw [e] at p; exact ⟨a, rfl, p⟩
theorem se_idx (hu : X.A.units + 65 < cLine) {a b : Expr} {ma mb : PF.Env → M D} {pos : Pos} (hn : nslice b = true) (ha : SB X W a ma) (hb : SE X W b mb) :
    SE X W (.Subscript a b pos) fun ρ => M.bind (ma ρ) fun x => M.bind (mb ρ) fun y => withCup fun c => opI c x y := by
  obtain ⟨r, ho, hr⟩ := opI_ok (X := X) hu
  obtain ⟨ta, a1, a2⟩ := ha
  obtain ⟨tb, b1, b2⟩ := hb
  refine ⟨_, pe_ix ho a1 b1 (ix_plain hn), fun σ H G ρ c Q at0 p => ?_⟩
  refine a2 σ H G ρ c _ at0 (p.bind fun x c1 v H1 G1 e1 t1 q1 r1 p1 => ?_)
  refine b2 σ H1 G1 ρ c1 _ (at0.stay e1 t1 q1) (p1.bind fun y c2 u H2 G2 e2 t2 q2 r2 p2 => ?_)
  obtain ⟨z, ez, k⟩ := withCup_post p2
  exact hr G2 H2 c2 v u x y z Q t2 q2 (r1.stay e2) r2 ez k
theorem se_sl {a : Expr} {l h : Option Expr} {ma : PF.Env → M D} {ml mh : PF.Env → M (Option Int)} {p2 pos : Pos} (ha : SB X W a ma) (hl : SO X W l ml) (hh : SO X W h mh) :
    SE X W (.Subscript a (.Slice l h none p2) pos) fun ρ => M.bind (ma ρ) fun x => M.bind (ml ρ) fun lo => M.bind (mh ρ) fun hi => M.lift (opS x lo hi) := by
  obtain ⟨r, ho, hr⟩ := opS_ok (X := X)
  obtain ⟨ta, a1, a2⟩ := ha
  obtain ⟨tb, b1, b2⟩ := hl
  obtain ⟨td, d1, d2⟩ := hh
  refine ⟨_, pe_slice ho a1 b1 d1, fun σ H G ρ c Q at0 p => ?_⟩
  refine a2 σ H G ρ c _ at0 (p.bind fun x c1 v H1 G1 e1 t1 q1 r1 p1 => ?_)
  have at1 := at0.stay e1 t1 q1
  refine b2 σ H1 G1 ρ c1 _ at1 (p1.bind fun y c2 u H2 G2 e2 t2 q2 r2 p2 => ?_)
  refine d2 σ H2 G2 ρ c2 _ (at1.stay e2 t2 q2) (p2.bind fun y3 c3 u3 H3 G3 e3 t3 q3 r3 p3 => ?_)
  subst r2 r3
  obtain ⟨z, ez, k⟩ := p3.lift1
  exact hr G3 H3 c3 v x _ _ z Q t3 q3 ((r1.stay e2).stay e3) ez k
theorem se_step {a b : Expr} {ma mb : PF.Env → M D} {p3 pos : Pos} (ha : SB X W a ma) (hb : SE X W b mb) :
    SE X W (.Subscript a (.Slice none none (some b) p3) pos) fun ρ => M.bind (ma ρ) fun x => M.bind (mb ρ) fun y => M.lift (opK x y) := by
  obtain ⟨ta, a1, a2⟩ := ha
  obtain ⟨tb, b1, b2⟩ := hb
  refine ⟨_, pe_stepL a1 b1, fun σ H G ρ c Q at0 p => ?_⟩
  refine a2 σ H G ρ c _ at0 (p.bind fun x c1 v H1 G1 e1 t1 q1 r1 p1 => ?_)
  refine b2 σ H1 G1 ρ c1 _ (at0.stay e1 t1 q1) (p1.bind fun y c2 u H2 G2 e2 t2 q2 r2 p2 => ?_)
  obtain ⟨z, ez, k⟩ := p2.lift1
  cases x <;> cases y <;> simp only [opK, reduceCtorEq] at ez
  split at ez
  · rename_i xs i hk
    cases ez
    obtain ⟨l, vs, rfl, na, h1, h2⟩ := r1.stay e2
    refine ⟨i, r2, i, l, vs, rfl, rfl, hk, .of h1, Go.lst (c := c2) k t2 q2 ?_⟩
    rw [h2.length]
    exact h2.picks _
  · cases ez
/-! ### calls -/
theorem spF_of {G1 : Gh} {H1 : Hp} {σ : L2.St} {ds : List D} {c1 : Cup} {vs : List V} {m : List D → M D} {Q : VK} (r1 : DenL X.K G1 H1 vs ds) (t1 : Trk G1 H1) (q1 : CupR G1 H1 c1) (tq : G1.T = tabK X.K) (p1 : Post X W σ (DenR X.K) G1 H1 (m ds c1) Q) :
    spF X.K X.mg m vs H1 Q (WE W σ) := by
  refine ⟨G1, ds, c1, r1, t1, q1, tq, ?_⟩
  cases e : m ds c1 with
  | ok d c2 => rw [e] at p1; exact p1
  | exc k c2 => rw [e] at p1; exact fun cv dx H' G' e' t' q' hk => p1 cv dx H' G' e' t' q' hk
  | stuck => rw [e] at p1; exact p1
theorem se_call {x : Str} {e : Expr} {es : List Expr} {ms : PF.Env → M (List D)} {m : List D → M D} {p pos : Pos} (hc : FnAt X x (e :: es).length m) (tk : Takes X W) (hg : Gl X x) (hd : nd x = true) (hn : (e :: es).all nstar = true) (ha : SA X W (e :: es) ms) :
    SE X W (.Call (.Name x p) (e :: es) [] pos) fun ρ => M.bind (ms ρ) m := by
  obtain ⟨k, f, fd, ps, F, hr, hm, hk, hb, hps⟩ := hc.ex
  obtain ⟨ta, a1, a2⟩ := ha
  rw [List.all_cons, Bool.and_eq_true] at hn
  refine ⟨_, pe_callS (E := WE W) F hr hg hm hk hb (passAt tk) a1 (nd_of hd) (star_cons hn.1) (back_plain hn.2), fun σ H G ρ c Q at0 p => ?_⟩
  exact a2 σ H G ρ c _ at0 (p.bind fun ds c1 vs H1 G1 e1 t1 q1 r1 p1 => spF_of r1 t1 q1 (e1.tt.trans at0.tq) p1)
theorem se_call0 {x : Str} {m : List D → M D} {p pos : Pos} (hc : FnAt X x 0 m) (tk : Takes X W) (hg : Gl X x) (hd : nd x = true) :
    SE X W (.Call (.Name x p) [] [] pos) fun ρ => M.bind (M.pure []) m := by
  obtain ⟨k, f, fd, ps, F, hr, hm, hk, hb, hps⟩ := hc.ex
  refine ⟨fun σ H Q => spF X.K X.mg m [] H Q (WE W σ), ⟨fun pins s σ H Q I h => ?_⟩, fun σ H G ρ c Q at0 p => spF_of (ds := []) True.intro at0.trk at0.cup at0.tq p⟩
  refine wpAny_Call_Name_kw (ld_glob I hg hm ?_ (nd_of hd))
  exact PySem.W.callWith_K0 I.kIn hk (run_fnS (us := []) (E := WE W) F hr hb (passAt tk σ) I .nil h)
theorem se_blt {b : Blt} {e : Expr} {es : List Expr} {ms : PF.Env → M (List D)} {p pos : Pos} (hcm : X.calm = true) (hu : X.A.units + 65 < cLine) (hg : Gl X (bname b)) (hm : X.mg (bname b) = none) (hn : (e :: es).all nstar = true) (ha : SAB X W (e :: es) ms) :
    SE X W (.Call (.Name (bname b) p) (e :: es) [] pos) fun ρ => M.bind (ms ρ) fun ds => M.lift (opF b ds) := by
  obtain ⟨r, ho, hr⟩ := opF_ok (X := X) hcm hu b
  obtain ⟨ta, a1, a2⟩ := ha
  rw [List.all_cons, Bool.and_eq_true] at hn
  have pe : PE X (.Call (.Name (bname b) p) (e :: es) [] pos) (tCB r ta) := by
    have hb := bboot b
    cases b with
    | len => exact pe_callB ho hg hm hb a1 (bnn _) (bnd _) (star_cons hn.1) (back_plain hn.2)
    | tuple => exact pe_callTy ho hg hm hb a1 (bnn _) (bnd _) (star_cons hn.1) (back_plain hn.2)
    | list => exact pe_callTy ho hg hm hb a1 (bnn _) (bnd _) (star_cons hn.1) (back_plain hn.2)
    | sorted => exact pe_callB ho hg hm hb a1 (bnn _) (bnd _) (star_cons hn.1) (back_plain hn.2)
    | all => exact pe_callB ho hg hm hb a1 (bnn _) (bnd _) (star_cons hn.1) (back_plain hn.2)
    | any => exact pe_callB ho hg hm hb a1 (bnn _) (bnd _) (star_cons hn.1) (back_plain hn.2)
    | sum => exact pe_callB ho hg hm hb a1 (bnn _) (bnd _) (star_cons hn.1) (back_plain hn.2)
    | abs => exact pe_callB ho hg hm hb a1 (bnn _) (bnd _) (star_cons hn.1) (back_plain hn.2)
    | int => exact pe_callTy ho hg hm hb a1 (bnn _) (bnd _) (star_cons hn.1) (back_plain hn.2)
    | bool => exact pe_callTy ho hg hm hb a1 (bnn _) (bnd _) (star_cons hn.1) (back_plain hn.2)
    | str => exact pe_callTy ho hg hm hb a1 (bnn _) (bnd _) (star_cons hn.1) (back_plain hn.2)
    | min => exact pe_callB ho hg hm hb a1 (bnn _) (bnd _) (star_cons hn.1) (back_plain hn.2)
    | max => exact pe_callB ho hg hm hb a1 (bnn _) (bnd _) (star_cons hn.1) (back_plain hn.2)
    | dict => exact pe_callTy ho hg hm hb a1 (bnn _) (bnd _) (star_cons hn.1) (back_plain hn.2)
  refine ⟨_, pe, fun σ H G ρ c Q at0 p => ?_⟩
  refine a2 σ H G ρ c _ at0 (p.bind fun ds c1 vs H1 G1 e1 t1 q1 r1 p1 => ?_)
  obtain ⟨z, ez, k⟩ := p1.lift1
  exact hr G1 H1 c1 vs ds z Q t1 q1 r1 ez k
theorem ty_of {G : Gh} {H : Hp} {v : V} {d : D} {t : Ty} {b : Bool} (h : Den X.K G H v d) (e : ty? d t = some b) : ∃ n : String, TyX X.K H v (.type n) ∧ kitB n (tyN t) = some b := by
  cases d with
  | non => cases show v = .non from h; exact ⟨_, .base .non, by cases t <;> simp only [ty?, Option.some.injEq] at e <;> subst e <;> decide +kernel⟩
  | bl x => cases show v = .bl x from h; exact ⟨_, .base (.bl x), by cases t <;> simp only [ty?, Option.some.injEq] at e <;> subst e <;> decide +kernel⟩
  | int x => cases show v = .int x from h; exact ⟨_, .base (.int x), by cases t <;> simp only [ty?, Option.some.injEq] at e <;> subst e <;> decide +kernel⟩
  | str x => cases show v = .str x from h; exact ⟨_, .base (.str x), by cases t <;> simp only [ty?, Option.some.injEq] at e <;> subst e <;> decide +kernel⟩
  | tup xs =>
    obtain ⟨a, vs, o1, rfl, na, h1, d1, h2⟩ := h
    exact ⟨_, .fTuple h1, by cases t <;> simp only [ty?, Option.some.injEq] at e <;> subst e <;> decide +kernel⟩
  | lst xs =>
    obtain ⟨a, vs, rfl, na, h1, h2⟩ := h
    exact ⟨_, .base (.lst h1), by cases t <;> simp only [ty?, Option.some.injEq] at e <;> subst e <;> decide +kernel⟩
  | _ => simp [ty?] at e
theorem boot_ty (t : Ty) : bootBuiltins (tyS t) = some (.type (tyN t)) := by cases t <;> decide +kernel
theorem se_isi {a : Expr} {ma : PF.Env → M D} {t : Ty} {p p2 pos : Pos} (hg : Gl X "isinstance") (hm : X.mg "isinstance" = none) (hgt : Gl X (tyS t)) (hmt : X.mg (tyS t) = none) (hn : nstar a = true) (ha : SE X W a ma) :
    SE X W (.Call (.Name "isinstance" p) [a, .Name (tyS t) p2] [] pos) fun ρ => M.bind (ma ρ) fun x => M.bind (M.lift (ty? x t)) fun b => M.pure (.bl b) := by
  obtain ⟨ta, a1, a2⟩ := ha
  have pt : PE X (.Name (tyS t) p2) (tC (.ty (tyN t))) := pe_bltn hgt hmt (boot_ty t) rfl (by cases t <;> decide) (by cases t <;> decide)
  refine ⟨_, pe_callB call_isi hg hm PyProof.Rows.boot_isinstance (pa_cons a1 (pa_cons pt pa_nil) (star_cons hn)) (by decide) (by decide) (star_cons hn), fun σ H G ρ c Q at0 p => ?_⟩
  refine a2 σ H G ρ c _ at0 (p.bind fun x c1 v H1 G1 e1 t1 q1 r1 p1 => ?_)
  obtain ⟨b, eb, p2⟩ := p1.lift
  obtain ⟨n, h1, h2⟩ := ty_of r1 eb
  exact ⟨v, _, _, _, b, rfl, .ty _, h1, kit_ty h2, p2 _ H1 G1 (Ext.refl _ _) t1 q1 rfl⟩
end
end PF
end

/-! ## PfS9 -/
section
/-! PfS9: index, the cup, ranges, targets. -/
set_option linter.all false
set_option autoImplicit false
namespace PF
open PySem L2
theorem opM_lst {xs ds : List D} {z : D} (h : opM .index (.lst xs) ds = some z) : ∃ y, ds = [y] ∧ (if plain y && plain (.lst xs) then (idxOf? y xs).map fun (j : Nat) => D.int (j : Int) else none) = some z := by
  match ds, h with
  | [y], h => exact ⟨y, rfl, h⟩
  | [], h => simp [opM] at h
  | _ :: _ :: _, h => simp [opM] at h
theorem opM_tup {xs ds : List D} {z : D} (h : opM .index (.tup xs) ds = some z) : ∃ y, ds = [y] ∧ (if plain y && plain (.tup xs) then (idxOf? y xs).map fun (j : Nat) => D.int (j : Int) else none) = some z := by
  match ds, h with
  | [y], h => exact ⟨y, rfl, h⟩
  | [], h => simp [opM] at h
  | _ :: _ :: _, h => simp [opM] at h
theorem opM_cnt {xs ds : List D} {z : D} (h : opM .count (.lst xs) ds = some z) : ∃ y, ds = [y] ∧ (if plain y && plain (.lst xs) then some (.int ((xs.countP fun x => eqD x y : Nat) : Int)) else none) = some z := by
  match ds, h with
  | [y], h => exact ⟨y, rfl, h⟩
  | [], h => simp [opM] at h
  | _ :: _ :: _, h => simp [opM] at h
theorem opM_get {kvs : List (D × D)} {ds : List D} {z : D} (h : opM .get (.dct kvs) ds = some z) : (∃ y k, ds = [y] ∧ keyD y = some k ∧ z = (dAt kvs k).getD .non) ∨ ∃ y dz k, ds = [y, dz] ∧ keyD y = some k ∧ z = (dAt kvs k).getD dz := by
  match ds, h with
  | [y], h =>
    obtain ⟨k, hk, rfl⟩ := Option.map_eq_some_iff.mp (show (keyD y).map _ = some z from h)
    exact .inl ⟨y, k, rfl, hk, rfl⟩
  | [y, dz], h =>
    obtain ⟨k, hk, rfl⟩ := Option.map_eq_some_iff.mp (show (keyD y).map _ = some z from h)
    exact .inr ⟨y, dz, k, rfl, hk, rfl⟩
  | [], h => simp [opM] at h
  | _ :: _ :: _ :: _, h => simp [opM] at h
section
variable {X : Cx} {W : WX} {sc : Scope}
/-- x.index(y), x a list or a tuple whose object is known -/
def tIdx (K : PySem.W.Frag) (to : TE) (t : TA) : TE := fun σ H Q => to σ H fun x H1 => (tyV K "list" x H1 ∧ t σ H1 fun xs H2 => rIndexD K x xs H2 Q) ∨
  ((∃ p o ys, x = .ref p ∧ H1 p = some (.frz o (.tup ys)) ∧ o.dict = none) ∧ t σ H1 fun xs H2 => ∃ (p : Addr) (o : Obj) (ys : List V) (ds : List PyData) (y : V) (d : PyData) (j : Nat) (z : PyData), x = .ref p ∧ xs = [y] ∧ H2 p = some (.frz o (.tup ys)) ∧ DpAll K H2 ys ds ∧ Dp K H2 y d ∧
    SeqAt.shaped (.list ds) = true ∧ SeqAt.shaped d = true ∧ ds[j]? = some z ∧ PyData.eqv z d = true ∧ (∀ (m : Nat) (z' : PyData), m < j → ds[m]? = some z' → PyData.eqv z' d = false) ∧ Q (.int (j : Nat)) H2)
theorem tup_index {pins : List (Addr × Obj)} {s : Shared} {σ : L2.St} {H : Hp} {p : Addr} {o : Obj} {ys : List V} {ds : List PyData} {y : V} {uy : Value} {d : PyData} {j : Nat} {z : PyData} {Q : VK} (hu : X.A.units + 65 < cLine) (I : L2.Inv X pins σ H s) (ry : RelV y uy)
    (hp : H p = some (.frz o (.tup ys))) (ha : DpAll X.K H ys ds) (hy : Dp X.K H y d) (sl : SeqAt.shaped (.list ds) = true) (sd : SeqAt.shaped d = true) (hz : ds[j]? = some z) (hzj : PyData.eqv z d = true)
    (hno : ∀ (m : Nat) (z' : PyData), m < j → ds[m]? = some z' → PyData.eqv z' d = false) (q : Q (.int (j : Nat)) H) : wpAny (model X.prog X.w) X.A (call (.builtin "tuple.index") [.ref p, uy]) (EP X pins σ Q) X.xe s := by
  obtain ⟨bs, r1⟩ := Dp.reads I d y uy hy ry
  have hxs : PyData.canLayAll0 ds = true := SeqAt.canLay_of_shaped sl
  have hroom : X.A.units + 1 + min (PyData.depthAll ds) d.depth < cLine := by
    have h1 := SeqAt.depth_of_shaped sd
    have h2 : min (PyData.depthAll ds) d.depth ≤ d.depth := Nat.min_le_right _ _
    omega
  obtain ⟨its, rv, ⟨⟨cls, dd, data, sls⟩, ho, hc, n, hdt⟩, hlen⟩ := I.tuple (sqT hp)
  simp only at hc hdt
  subst hc hdt
  obtain ⟨as, h4⟩ := Dp.readsAll I ds _ its ha rv
  have hn : its.length = ds.length := SeqAt.ReadsAll.length ds its as h4
  have hmap : its.map (SeqAt.readOf s.heap) = ds := SeqAt.readsAll_map ds its as hxs h4
  obtain ⟨hjd, _⟩ := List.getElem?_eq_some_iff.mp hz
  have at_ : ∀ (m : Nat) (hm : m < its.toArray.size) (z' : PyData), ds[m]? = some z' → SeqAt.readOf s.heap its.toArray[m] = z' := fun m hm z' hz' => by
    have hml : m < its.length := by simpa using hm
    rw [← hmap, List.getElem?_map, List.getElem?_eq_getElem hml] at hz'
    simpa using hz'
  refine call_meets PySem.F.slot_tuple_index ⟨_, ho, rfl⟩ PySem.F.entry_tuple_index (PySem.F.args_tuple_index_2 _ _)
    (TI.tuple_indexAt p its.toArray n dd sls uy (fun u => PyData.eqv (SeqAt.readOf s.heap u) d) j (by rw [List.size_toArray]; omega) ?_ (fun m hm hmj => ?_)) ⟨ho, SeqAt.items_eqAt (vs := its.toArray) (show ReadsAll s.heap its.toArray.toList ds as from h4) r1 hxs (SeqAt.canLay_of_shaped sd) hroom, ?_⟩
  · have hj' : j < its.toArray.size := by rw [List.size_toArray]; omega
    show PyData.eqv (SeqAt.readOf s.heap (its.toArray[j]'hj')) d = true
    rw [at_ j hj' z hz]
    exact hzj
  · have hmd : m < ds.length := by omega
    have hz' : ds[m]? = some ds[m] := List.getElem?_eq_getElem hmd
    show PyData.eqv (SeqAt.readOf s.heap its.toArray[m]) d = false
    rw [at_ m hm _ hz']
    exact hno m _ hmj hz'
  · exact ⟨.int (j : Nat), H, I.tok _, ⟨_, rfl⟩, q⟩
theorem pe_idx {o e : Expr} {es : List Expr} {apos cpos : Pos} {to : TE} {t : TA} (hu : X.A.units + 65 < cLine) (ho : PE X o to) (ha : PA X (e :: es) t) (hb : nsuper o = true) (hn : (e :: es).all nstar = true) (hl : (e :: es).length < 20) (hline : (apos.endLine == cpos.line) = true) :
    PE X (.Call (.Attribute o "index" apos) (e :: es) [] cpos) (tIdx X.K to t) := by
  have hn' := hn
  rw [List.all_cons, Bool.and_eq_true] at hn
  refine ⟨fun pins s σ H Q I h => ?_⟩
  refine wpAny_Call_method_late (base_plain hb) ?_ hline rfl (thn (ho.run pins s σ H _ I h) fun v s1 ⟨x, H1, I1, r1, q1⟩ => ?_)
  · rw [back_all hn', decide_eq_true (by simp only [List.length_cons, List.length_nil, List.isEmpty_nil, if_true] at hl ⊢; omega)]
    rfl
  rcases q1 with ⟨ty, q1⟩ | ⟨⟨p, ob, ys, ex, hp, hd⟩, q1⟩
  · obtain ⟨h1, h2⟩ := tyV_is I1 r1 ty
    refine ⟨_, _, PySem.F.plainAttrs_list, PySem.F.slot_list_index, PySem.F.type_list_index, h1, h2, ?_⟩
    have hA := ha.run cpos pins s1 σ H1 _ I1 q1
    rw [star_cons hn.1] at hA ⊢
    refine Calls.callWith_builtin (by show (false || (backTo cpos (starEach es X.env)).any (·.1)) = false; rw [back_plain hn.2]; rfl) (Calls.evalArgs_plain ?_)
    exact thn hA fun us s2 ⟨vs, H2, I2, r2, q2⟩ => mt_indexD hu pins s2 σ H2 x vs v us Q I2 r1 r2 q2
  · subst ex
    cases r1
    obtain ⟨hg, _⟩ := I1.hok p _ hp
    obtain ⟨its, _, pt, _⟩ := I1.tuple (sqT hp)
    refine ⟨_, _, PySem.F.plainAttrs_tuple, PySem.F.slot_tuple_index, PySem.F.type_tuple_index, pt.typeIs, fun a e => ?_, ?_⟩
    · cases e
      exact ⟨ob, hg, hd⟩
    have hA := ha.run cpos pins s1 σ H1 _ I1 q1
    rw [star_cons hn.1] at hA ⊢
    refine Calls.callWith_builtin (by show (false || (backTo cpos (starEach es X.env)).any (·.1)) = false; rw [back_plain hn.2]; rfl) (Calls.evalArgs_plain ?_)
    refine thn hA fun us s2 ⟨vs, H2, I2, r2, p', o', ys', ds, y, d, j, z, ex, ev, hp', ha', hy, sl, sd, hz, hzj, hno, q⟩ => ?_
    cases ex
    subst ev
    obtain ⟨u, rfl, ru⟩ := vals1 r2
    exact tup_index hu I2 ru hp' ha' hy sl sd hz hzj hno q
theorem se_index {o e : Expr} {es : List Expr} {apos cpos : Pos} {mo : PF.Env → M D} {ms : PF.Env → M (List D)} (hu : X.A.units + 65 < cLine) (ho : SB X W o mo) (ha : SA X W (e :: es) ms) (hb : nsuper o = true) (hn : (e :: es).all nstar = true) (hl : (e :: es).length < 20) (hline : (apos.endLine == cpos.line) = true) :
    SE X W (.Call (.Attribute o "index" apos) (e :: es) [] cpos) fun ρ => M.bind (mo ρ) fun x => M.bind (M.lift (mthOk .index x)) fun _ => M.bind (ms ρ) fun ds => M.lift (opM .index x ds) := by
  obtain ⟨to, o1, o2⟩ := ho
  obtain ⟨t, a1, a2⟩ := ha
  refine ⟨_, pe_idx hu o1 a1 hb hn hl hline, fun σ H G ρ c Q at0 p => ?_⟩
  refine o2 σ H G ρ c _ at0 (p.bind fun x c1 v H1 G1 e1 t1 q1 r1 p1 => ?_)
  have at1 := at0.stay e1 t1 q1
  obtain ⟨ou, eu, p1⟩ := p1.lift
  have shp : ∀ {ps : List PyData}, PyData.canLayAll0 ps = true → PyData.depthAll ps ≤ 19 → SeqAt.shaped (.list ps) = true := fun {ps} h1 h2 => by
    unfold SeqAt.shaped
    have : PyData.canLay0 (.list ps) = true := h1
    rw [this, decide_eq_true (show PyData.depth (.list ps) ≤ 64 by simp only [PyData.depth]; omega)]
    rfl
  cases x with
  | lst xs =>
    obtain ⟨a, vs, rfl, na, h1, h2⟩ := r1
    refine .inl ⟨.inl ⟨rfl, _, .of h1⟩, a2 σ H1 G1 ρ c1 _ at1 (p1.bind fun ds c2 us H2 G2 e2 t2 q2 r2 p2 => ?_)⟩
    obtain ⟨z, ez, k⟩ := p2.lift1
    have e9 := opM_lst ez
    clear ez
    obtain ⟨y, rfl, ez⟩ := e9
    · split at ez
      · rename_i hp
        rw [Bool.and_eq_true] at hp
        obtain ⟨j, ej, rfl⟩ := Option.map_eq_some_iff.mp ez
        match us, r2 with
        | [u], r2 =>
        obtain ⟨dy, d1, d2, d3⟩ := r2.1.bor.data hp.1
        have hb2 : Bor X.K G2 H2 (.ref a) (.lst xs) := Bor.stay e2 ⟨a, vs, rfl, na, h1, h2⟩
        obtain ⟨dl, l1, l2, l3⟩ := hb2.data hp.2
        simp only [ofD, Option.map_eq_some_iff] at l3
        obtain ⟨ps, l3, rfl⟩ := l3
        obtain ⟨⟨zz, z1, z2⟩, z3⟩ := idxOf_some ej
        have hj : j < ps.length := by
          rw [ofDs_length l3]
          exact (List.getElem?_eq_some_iff.mp z1).1
        have hz : ps[j]? = some ps[j] := List.getElem?_eq_getElem hj
        refine ⟨a, u, dy, ps, j, ps[j], rfl, rfl, l1, d1, l2, d2, hz, ?_, fun m z' hm hz' => ?_, k _ H2 G2 (Ext.refl _ _) t2 q2 rfl⟩
        · obtain ⟨d', e1', e2'⟩ := ofDs_get l3 hz
          rw [z1] at e1'; cases e1'
          rw [eqv_of _ _ _ _ e2' d3]; exact z2
        · obtain ⟨d', e1', e2'⟩ := ofDs_get l3 hz'
          rw [eqv_of _ _ _ _ e2' d3]; exact z3 m d' hm e1'
      · cases ez
  | tup xs =>
    obtain ⟨a, vs, o, rfl, na, h1, hd, h2⟩ := id r1
    refine .inr ⟨⟨a, o, vs, rfl, h1, hd⟩, a2 σ H1 G1 ρ c1 _ at1 (p1.bind fun ds c2 us H2 G2 e2 t2 q2 r2 p2 => ?_)⟩
    obtain ⟨z, ez, k⟩ := p2.lift1
    have e9 := opM_tup ez
    clear ez
    obtain ⟨y, rfl, ez⟩ := e9
    split at ez
    · rename_i hp
      rw [Bool.and_eq_true] at hp
      obtain ⟨j, ej, rfl⟩ := Option.map_eq_some_iff.mp ez
      match us, r2 with
      | [u], r2 =>
      obtain ⟨dy, d1, d2, d3⟩ := r2.1.bor.data hp.1
      have hb2 : Den X.K G2 H2 (.ref a) (.tup xs) := Den.stay e2.stb _ _ r1
      obtain ⟨a', vs', o', ea, na', g1, gd, g2⟩ := hb2
      cases ea
      obtain ⟨ps, l1, l2, l3, l4⟩ := DenL.data xs 19 vs' g2 (by simpa [plain, plainN] using hp.2)
      obtain ⟨⟨zz, z1, z2⟩, z3⟩ := idxOf_some ej
      have hj : j < ps.length := by
        rw [ofDs_length l4]
        exact (List.getElem?_eq_some_iff.mp z1).1
      have hz : ps[j]? = some ps[j] := List.getElem?_eq_getElem hj
      refine ⟨a, o', vs', ps, u, dy, j, ps[j], rfl, rfl, g1, l1, d1, shp l2 l3, d2, hz, ?_, fun m z' hm hz' => ?_, k _ H2 G2 (Ext.refl _ _) t2 q2 rfl⟩
      · obtain ⟨d', e1', e2'⟩ := ofDs_get l4 hz
        rw [z1] at e1'; cases e1'
        rw [eqv_of _ _ _ _ e2' d3]; exact z2
      · obtain ⟨d', e1', e2'⟩ := ofDs_get l4 hz'
        rw [eqv_of _ _ _ _ e2' d3]; exact z3 m d' hm e1'
    · cases ez
  | _ => simp [mthOk] at eu
end
end PF
end

/-! ## PfS9c -/
section
/-! PfS9c: d.get(..), xs.count(y). -/
set_option linter.all false
set_option autoImplicit false
set_option maxRecDepth 100000
namespace PF
open PySem L2
section
variable {X : Cx} {W : WX} {sc : Scope}
/-- a.get(..), a a dict -/
def rGet (X : Cx) (a : Addr) : List V → Hp → VK → Prop := fun vs H Q => ∃ (k : NestedKey) (xs : Ents) (y vv : V), (a == sysModules) = false ∧ IsKey H k y ∧ (∀ hp, HOk X.prog X.w H hp → DictN X.w hp a xs) ∧ Q vv H ∧
  ((vs = [y] ∧ ((∃ p, atN xs k = some p ∧ RelV vv p.2) ∨ (atN xs k = none ∧ vv = .non))) ∨ (∃ z, vs = [y, z] ∧ ((∃ p, atN xs k = some p ∧ RelV vv p.2) ∨ (atN xs k = none ∧ vv = z))))
def tGet (X : Cx) (to : TE) (t : TA) : TE := fun σ H Q => to σ H fun x H1 => ∃ a xs0, x = .ref a ∧ (∀ hp, HOk X.prog X.w H1 hp → DictN X.w hp a xs0) ∧ t σ H1 fun vs H2 => rGet X a vs H2 Q
theorem pe_get {o e : Expr} {es : List Expr} {apos cpos : Pos} {to : TE} {t : TA} (hu : X.A.units + 65 < cLine) (ho : PE X o to) (ha : PA X (e :: es) t) (hb : nsuper o = true) (hn : (e :: es).all nstar = true) (hl : (e :: es).length < 20) (hline : (apos.endLine == cpos.line) = true) :
    PE X (.Call (.Attribute o "get" apos) (e :: es) [] cpos) (tGet X to t) := by
  have hn' := hn
  rw [List.all_cons, Bool.and_eq_true] at hn
  refine ⟨fun pins s σ H Q I h => ?_⟩
  refine wpAny_Call_method_late (base_plain hb) ?_ hline rfl (thn (ho.run pins s σ H _ I h) fun v s1 ⟨x, H1, I1, r1, q1⟩ => ?_)
  · rw [back_all hn', decide_eq_true (by simp only [List.length_cons, List.length_nil, List.isEmpty_nil, if_true] at hl ⊢; omega)]
    rfl
  obtain ⟨a, xs0, rfl, hd0, q1⟩ := q1
  cases r1
  have D0 := hd0 _ I1.hok
  obtain ⟨od, es0, ep0, ho0, hc0, _⟩ := id D0
  refine ⟨_, _, PySem.F.plainAttrs_dict, PySem.F.slot_dict_get, PySem.F.type_dict_get, D0.typeIs, fun b e => ?_, ?_⟩
  · cases e
    exact ⟨od, ho0, hc0.2.1⟩
  have hA := ha.run cpos pins s1 σ H1 _ I1 q1
  rw [star_cons hn.1] at hA ⊢
  refine Calls.callWith_builtin (by show (false || (backTo cpos (starEach es X.env)).any (·.1)) = false; rw [back_plain hn.2]; rfl) (Calls.evalArgs_plain ?_)
  refine thn hA fun us s2 ⟨vs, H2, I2, r2, k, xs, y, vv, hs, hk, hd, q, hv⟩ => ?_
  have D := hd _ I2.hok
  rcases hv with ⟨rfl, hv⟩ | ⟨z, rfl, hv⟩
  · obtain ⟨u, rfl, ru⟩ := vals1 r2
    refine dget1_N (by show _ + 1 + 8 < cLine; omega) (hk.is ru I2.hok) hs D ⟨vv, H2, I2.tok _, ?_, q⟩
    rcases hv with ⟨p, hp, rv⟩ | ⟨hp, rfl⟩
    · rw [hp]; exact rv
    · rw [hp]; rfl
  · cases r2 with
    | cons ru r2 =>
      cases r2 with
      | cons rz r2 =>
        cases r2
        refine dget_N (by show _ + 1 + 8 < cLine; omega) (hk.is ru I2.hok) hs D ⟨vv, H2, I2.tok _, ?_, q⟩
        rcases hv with ⟨p, hp, rv⟩ | ⟨hp, rfl⟩
        · rw [hp]; exact rv
        · rw [hp]; exact rz
theorem se_get {o e : Expr} {es : List Expr} {apos cpos : Pos} {mo : PF.Env → M D} {ms : PF.Env → M (List D)} (hu : X.A.units + 65 < cLine) (ho : SB X W o mo) (ha : SA X W (e :: es) ms) (hb : nsuper o = true) (hn : (e :: es).all nstar = true) (hl : (e :: es).length < 20) (hline : (apos.endLine == cpos.line) = true) :
    SE X W (.Call (.Attribute o "get" apos) (e :: es) [] cpos) fun ρ => M.bind (mo ρ) fun x => M.bind (M.lift (mthOk .get x)) fun _ => M.bind (ms ρ) fun ds => M.lift (opM .get x ds) := by
  obtain ⟨to, o1, o2⟩ := ho
  obtain ⟨t, a1, a2⟩ := ha
  refine ⟨_, pe_get hu o1 a1 hb hn hl hline, fun σ H G ρ c Q at0 p => ?_⟩
  refine o2 σ H G ρ c _ at0 (p.bind fun x c1 v H1 G1 e1 t1 q1 r1 p1 => ?_)
  have at1 := at0.stay e1 t1 q1
  obtain ⟨ou, eu, p1⟩ := p1.lift
  obtain ⟨kvs, rfl⟩ : ∃ kvs, x = .dct kvs := by cases x <;> simp [mthOk] at eu; exact ⟨_, rfl⟩
  obtain ⟨a, rfl, na, dat⟩ := id r1
  obtain ⟨xs, _, _, _, _, _, hd⟩ := dat.dict X.prog X.w
  refine ⟨a, xs, rfl, hd, a2 σ H1 G1 ρ c1 _ at1 (p1.bind fun ds c2 us H2 G2 e2 t2 q2 r2 p2 => ?_)⟩
  obtain ⟨z, ez, k⟩ := p2.lift1
  obtain ⟨a', ea, na2, dat2⟩ := Bor.stay e2 r1
  cases ea
  obtain ⟨xs2, rx, hs, _, _, _, hd2⟩ := dat2.dict X.prog X.w
  rcases opM_get ez with ⟨y, kk, rfl, hk, rfl⟩ | ⟨y, dz, kk, rfl, hk, rfl⟩
  · skip
    match us, r2 with
    | [u], r2 =>
      cases hv : dAt kvs kk with
      | some d =>
        obtain ⟨p, vv, g1, g2, g3⟩ := (rx.at kk).2 d hv
        rw [hv] at k
        exact ⟨kk, xs2, u, vv, hs, r2.1.isKey hk, hd2, k vv H2 G2 (Ext.refl _ _) t2 q2 g3, .inl ⟨rfl, .inl ⟨p, g1, g2⟩⟩⟩
      | none =>
        rw [hv] at k
        exact ⟨kk, xs2, u, .non, hs, r2.1.isKey hk, hd2, k .non H2 G2 (Ext.refl _ _) t2 q2 rfl, .inl ⟨rfl, .inr ⟨rx.none hv, rfl⟩⟩⟩
  · match us, r2 with
    | [u, uz], r2 =>
      cases hv : dAt kvs kk with
      | some d =>
        obtain ⟨p, vv, g1, g2, g3⟩ := (rx.at kk).2 d hv
        rw [hv] at k
        exact ⟨kk, xs2, u, vv, hs, r2.1.isKey hk, hd2, k vv H2 G2 (Ext.refl _ _) t2 q2 g3, .inr ⟨uz, rfl, .inl ⟨p, g1, g2⟩⟩⟩
      | none =>
        rw [hv] at k
        exact ⟨kk, xs2, u, uz, hs, r2.1.isKey hk, hd2, k uz H2 G2 (Ext.refl _ _) t2 q2 r2.2.1, .inr ⟨uz, rfl, .inr ⟨rx.none hv, rfl⟩⟩⟩
/-! ### count -/
def rCntD (K : PySem.W.Frag) : V → List V → Hp → VK → Prop := fun x xs H Q => ∃ (p : Addr) (ys : List V) (ds : List PyData) (y : V) (d : PyData), x = .ref p ∧ xs = [y] ∧ SqL K H p ys ∧ DpAll K H ys ds ∧ Dp K H y d ∧ SeqAt.shaped (.list ds) = true ∧ SeqAt.shaped d = true ∧ Q (.int (ds.countP fun z => PyData.eqv z d : Nat)) H
theorem mt_countD (hu : X.A.units + 65 < cLine) : MtR X "list.count" (rCntD X.K) := by
  intro pins s σ H x xs v us Q I rx rxs h
  obtain ⟨p, ys, ds, y, d, rfl, rfl, hs, ha, hy, sl, sd, q⟩ := h
  cases rx
  obtain ⟨uy, rfl, ry⟩ := rxs.one
  obtain ⟨bs, r1⟩ := Dp.reads I d y uy hy ry
  have hxs : PyData.canLayAll0 ds = true := SeqAt.canLay_of_shaped sl
  have hroom : X.A.units + 1 + min (PyData.depthAll ds) d.depth < cLine := by
    have h1 := SeqAt.depth_of_shaped sd
    have h2 : min (PyData.depthAll ds) d.depth ≤ d.depth := Nat.min_le_right _ _
    omega
  obtain ⟨its, rv, ⟨⟨cls, dd, data, sls⟩, n, ho, hc, hdn, hdt⟩, hlen⟩ := I.list hs
  simp only at hc hdt
  subst hc hdt
  obtain ⟨as, h4⟩ := Dp.readsAll I ds _ its ha rv
  have hmap : its.map (SeqAt.readOf s.heap) = ds := SeqAt.readsAll_map ds its as hxs h4
  refine call_meets PySem.F.slot_list_count ⟨_, ho, rfl⟩ PySem.F.entry_list_count (PySem.F.args_list_count_2 _ _)
    (SeqAt.list_countAt p its.toArray n dd sls uy (fun u => PyData.eqv (SeqAt.readOf s.heap u) d)) ⟨ho, SeqAt.items_eqAt (vs := its.toArray) (show ReadsAll s.heap its.toArray.toList ds as from h4) r1 hxs (SeqAt.canLay_of_shaped sd) hroom, ?_⟩
  refine ⟨.int (ds.countP fun z => PyData.eqv z d : Nat), H, I.tok _, ⟨s.toks, ?_⟩, q⟩
  have e : its.toArray.toList.countP (fun u => PyData.eqv (SeqAt.readOf s.heap u) d) = ds.countP fun z => PyData.eqv z d := by
    rw [← hmap, List.countP_map]
    rfl
  show Value.int _ s.toks = Value.int _ s.toks
  rw [e]
theorem countP_of : ∀ (ds : List D) (ps : List PyData) (d : D) (p : PyData), ofDs ds = some ps → ofD d = some p → (ps.countP fun z => PyData.eqv z p) = ds.countP fun x => eqD x d
  | [], ps, d, p, h1, _ => by
    simp only [ofDs, Option.some.injEq] at h1
    subst h1; rfl
  | x :: xs, ps, d, p, h1, h2 => by
    simp only [ofDs] at h1
    split at h1
    · rename_i q qs a1 a2
      cases h1
      rw [List.countP_cons, List.countP_cons, countP_of xs qs d p a2 h2, eqv_of x d q p a1 h2]
    · cases h1
theorem se_count {o e : Expr} {es : List Expr} {apos cpos : Pos} {mo : PF.Env → M D} {ms : PF.Env → M (List D)} (hu : X.A.units + 65 < cLine) (ho : SB X W o mo) (ha : SA X W (e :: es) ms) (hb : nsuper o = true) (hn : (e :: es).all nstar = true) (hl : (e :: es).length < 20) (hline : (apos.endLine == cpos.line) = true) :
    SE X W (.Call (.Attribute o "count" apos) (e :: es) [] cpos) fun ρ => M.bind (mo ρ) fun x => M.bind (M.lift (mthOk .count x)) fun _ => M.bind (ms ρ) fun ds => M.lift (opM .count x ds) := by
  obtain ⟨to, o1, o2⟩ := ho
  obtain ⟨t, a1, a2⟩ := ha
  have hn' := hn
  rw [List.all_cons, Bool.and_eq_true] at hn
  have hp := pe_bm (cpos := cpos) (apos := apos) PySem.F.plainAttrs_list PySem.F.slot_list_count PySem.F.type_list_count (mt_countD hu) o1 a1 (base_plain hb) (by
    rw [back_all hn', decide_eq_true (by simp only [List.length_cons, List.length_nil, List.isEmpty_nil, if_true] at hl ⊢; omega)]
    rfl) hline (star_cons hn.1) (back_plain hn.2)
  refine ⟨_, hp, fun σ H G ρ c Q at0 p => ?_⟩
  refine o2 σ H G ρ c _ at0 (p.bind fun x c1 v H1 G1 e1 t1 q1 r1 p1 => ?_)
  have at1 := at0.stay e1 t1 q1
  obtain ⟨ou, eu, p1⟩ := p1.lift
  obtain ⟨xs, rfl⟩ : ∃ xs, x = .lst xs := by cases x <;> simp [mthOk] at eu; exact ⟨_, rfl⟩
  obtain ⟨a, vs, rfl, na, h1, h2⟩ := id r1
  refine ⟨.inl ⟨rfl, _, .of h1⟩, a2 σ H1 G1 ρ c1 _ at1 (p1.bind fun ds c2 us H2 G2 e2 t2 q2 r2 p2 => ?_)⟩
  obtain ⟨z, ez, k⟩ := p2.lift1
  obtain ⟨a', vs2, ea, na2, g1, g2⟩ := Bor.stay e2 r1
  cases ea
  have e9 := opM_cnt ez
  clear ez
  obtain ⟨y, rfl, ez⟩ := e9
  split at ez
  · rename_i hpl
    rw [Bool.and_eq_true] at hpl
    cases ez
    match us, r2 with
    | [u], r2 =>
      obtain ⟨dy, d1, d2, d3⟩ := r2.1.bor.data hpl.1
      have hb2 : Bor X.K G2 H2 (.ref a) (.lst xs) := ⟨a, vs2, rfl, na2, g1, g2⟩
      obtain ⟨dl, l1, l2, l3⟩ := hb2.data hpl.2
      simp only [ofD, Option.map_eq_some_iff] at l3
      obtain ⟨ps, l3, rfl⟩ := l3
      obtain ⟨ps', q1', q2', q3', q4'⟩ := DenL.data xs 19 vs2 g2 (by simpa [plain, plainN] using hpl.2)
      rw [l3] at q4'
      cases q4'
      exact ⟨a, vs2, ps, u, dy, rfl, rfl, .of g1, q1', d1, l2, d2, by rw [countP_of xs ps y dy l3 d3]; exact k _ H2 G2 (Ext.refl _ _) t2 q2 rfl⟩
  · cases ez
end
end PF
end

/-! ## PfS9a -/
section
/-! PfS9a: enumerate over a tuple. -/
set_option linter.all false
set_option autoImplicit false
set_option maxRecDepth 100000
set_option maxHeartbeats 2000000
namespace PF
open PySem L2 PyProof.Rows
open Sem (wp)
def enC (h : Heap) : Obj := ⟨.type "enumerate", none, .fields #[.none, .bool false, .ref h.objs.size, rawInt 0, .none, .none], #[]⟩
def enH (h : Heap) (o : Obj) : Heap := (h.push o).push (enC h)
theorem meets_en {v : Value} {o : Obj} {H : Heap → Prop} (B : Begins v o H) :
    Meets (Builtin.«enumerate.__new__» ⟨[.type "enumerate", v], []⟩) fun _ R s => H s.heap ∧ R (.ok (.ret (.ref (s.heap.push o).objs.size))) { s with heap := enH s.heap o } := by
  refine .of_wp fun prog w A R s hh => ?_
  obtain ⟨hp, g, d, tk, os⟩ := s
  obtain ⟨b1, hR⟩ := hh
  have hsub := sub_enumerate
  have it : ∀ {A' : Around} {E Q : Value → Shared → Prop}, Q (.ref hp.objs.size) ⟨hp.push o, g, d, tk, os⟩ → wpAny (model prog w) A' (pyIter v) Q E ⟨hp, g, d, tk, os⟩ := fun z => B.iter prog w _ _ ⟨hp, g, d, tk, os⟩ _ b1 z
  wp_walk using it
  refine wpAny_stack_any fun st => wpAny_pure ?_
  split
  · rename_i c1 _ _ _ _ _
    cases (c1 == Value.type "enumerate") <;> (wp_walk using it) <;> exact ⟨_, rfl, hR⟩
  · wp_walk using it
    exact ⟨_, rfl, hR⟩
theorem call_en {prog : Program} {w : World} {A : Around} {E Q : Value → Shared → Prop} {s : Shared} {v : Value} {o : Obj} {H : Heap → Prop} (B : Begins v o H) (b1 : H s.heap)
    (hQ : ∀ h', IsEnum h' (s.heap.objs.size + 1) s.heap.objs.size 0 .none → h'.get? s.heap.objs.size = some o → (∀ b ob, s.heap.get? b = some ob → h'.get? b = some ob) → Q (.ref (s.heap.objs.size + 1)) { s with heap := h' }) :
    wpAny (model prog w) A (call (.type "enumerate") [v]) Q E s := by
  have sz : (s.heap.push o).objs.size = s.heap.objs.size + 1 := by rw [Heap.size_push]
  refine callType_new F.called_enumerate (by decide) (F.typeCall_enumerate_1 _) (F.newCall_enumerate_1 _) (fun ob => F.args_object_init_2 ob _) F.entry_enumerate_new (meets_en B) ⟨b1, ?_⟩
  have g1 : IsEnum (enH s.heap o) (s.heap.objs.size + 1) s.heap.objs.size 0 .none := by
    have z := Heap.get?_push_size (s.heap.push o) (o := enC s.heap) rfl
    rw [sz] at z
    exact z
  show _ ∧ Q (.ref (s.heap.push o).objs.size) _
  rw [sz]
  exact ⟨⟨_, g1, rfl⟩, hQ _ g1 (Heap.get?_push_of_some _ (Heap.get?_push_size _ B.free)) fun b ob z => Heap.get?_push_of_some _ (Heap.get?_push_of_some _ z)⟩
/-- the tuple at a, each item in a new pair -/
def IteT (K : PySem.W.Frag) (a : Addr) : It where
  go := fun i H => ∃ (xs : List V) (x : V), SqT K H a xs ∧ xs[i]? = some x
  yld := fun i H v H' => ∃ (T : Addr) (x : V), (v = .ref T ∧ H T = none) ∧ H' = upd H T (.tup [.int (i : Nat), x]) ∧ ∀ xs, SqT K H a xs → xs[i]? = some x
  stop := fun i H => ∃ xs : List V, SqT K H a xs ∧ xs.length ≤ i
section
variable {X : Cx} {pins : List (Addr × Obj)} {σ : L2.St} {H : Hp} {s : Shared}
theorem tup_at {a : Addr} {xs : List V} (I : Inv X pins σ H s) (h : SqT X.K H a xs) : ∃ its : List Value, Vals xs its ∧ s.heap.IsTuple a its.toArray := by
  obtain ⟨its, r, p, _⟩ := I.tuple h
  exact ⟨its, r, p⟩
end
theorem apart {h : Heap} {a it : Addr} {items : Array Value} {i : Nat} (h1 : h.IsTuple a items) (h2 : h.IsTupleIter it a i) : a ≠ it := fun z => by
  obtain ⟨o, e1, e2, _⟩ := h1
  obtain ⟨o', e1', e2', _⟩ := h2
  rw [z, e1'] at e1
  cases e1
  rw [e2] at e2'
  exact absurd (Value.type.inj e2') (by decide)
/-- the tuple's iterator at its end -/
theorem draws_end {prog : Program} {w : World} {A : Around} {it a : Addr} {items : Array Value} {i : Nat} (hh : A.handled = none) (he : items[i]? = none) :
    Draws prog w A it [it, a] i (fun _ _ => False) fun j h => j = i ∧ h.IsTupleIter it a i ∧ h.IsTuple a items where
  live := fun j h st => by
    obtain ⟨_, ⟨o, ho, _⟩, _⟩ := st
    exact ⟨o, ho⟩
  frame := fun j h h' st k => ⟨st.1, st.2.1.at fun o z => k it List.mem_cons_self o z, st.2.2.at fun o z => k a (List.mem_cons_of_mem _ List.mem_cons_self) o z⟩
  item := fun j s Q E hj st _ => absurd st.1 (Nat.ne_of_lt hj)
  done := fun s Q E st hE => wpAny_nextOf_tuple_end hh st.2.1 st.2.2 he hE
theorem turn_enT {P : Program} {w : World} {K : PySem.W.Frag} {elts : List Expr} {kk : Nat} {tp : Pos} (a e it : Addr) :
    Turn P w K (.Tuple elts kk tp) (IteT K a) [e, it] e fun i h => h.IsTupleIter it a i ∧ (e ≠ it ∧ ∃ old, IsEnum h e it ((i : Nat) : Int) old) where
  mem := List.mem_cons_self
  self := fun A i s Q E st h => by
    obtain ⟨_, _, _, he⟩ := st
    exact wpAny_pyIter_enum he h
  obj := fun i h st b hb => by
    obtain ⟨⟨o, ho, _, hd⟩, _, old, he⟩ := st
    rcases List.mem_cons.mp hb with z | z
    · subst z
      exact ⟨_, he, fun v q => nomatch q⟩
    · exact ⟨o, by rw [List.mem_singleton.mp z]; exact ho, fun v q => by rw [hd] at q; cases q⟩
  keep := fun i h h' st k => by
    obtain ⟨hi, hne, old, he⟩ := st
    exact ⟨hi.at fun o z => k it (List.mem_cons_of_mem _ (List.mem_singleton.mpr rfl)) o z, hne, old, k e List.mem_cons_self _ he⟩
  item := by
    intro X hP hw hK hc i pins s σ H E I hf st hg
    subst hP hw hK
    obtain ⟨hit, hne, old, he⟩ := st
    obtain ⟨xs, x, hq, hx⟩ := hg
    obtain ⟨its, rv, hT0⟩ := tup_at I hq
    obtain ⟨u, hu, ru⟩ := rv.get hx
    have sE : e < s.heap.objs.size := Heap.lt_size he
    have sI : it < s.heap.objs.size := by obtain ⟨_, z, _⟩ := hit; exact Heap.lt_size z
    have hlt : i < its.toArray.size := by
      have := (List.getElem?_eq_some_iff.mp hu).1
      simpa using this
    have hea : e ≠ a := fun z => by
      obtain ⟨o, e1, e2, _⟩ := hT0
      rw [← z] at e1
      have e3 : s.heap.get? e = some _ := he
      rw [e3] at e1
      cases e1
      exact absurd (Value.type.inj e2) (by decide)
    have D := Draws.tuple (prog := X.prog) (w := X.w) (A := X.A.in1) (I.ok.hd hc) it a (apart hT0 hit) its.toArray
    refine wpAny_pyNext_enum_itemD D he ⟨hit, hT0⟩ hlt hne (by simp only [List.mem_cons, List.not_mem_nil, or_false, not_or]; exact ⟨hne, hea⟩) fun y h1 tk hy ho st1 hT _ kp => ?_
    have ey : y = u := by
      have z : its.toArray[i]? = some y := hy
      have z2 : its[i]? = some y := by simpa using z
      rw [hu] at z2
      exact (Option.some.inj z2).symm
    subst ey
    refine ⟨_, rfl, wpAny_letOwnedTupleGo_enum (s := { s with heap := h1, toks := tk + 1 }) ho fun h2 he2 sb => ?_⟩
    have at2 : ∀ b : Addr, b ≠ e → h2.get? b = h1.get? b := sb.2
    have hT2 := (at2 _ (Nat.ne_of_gt sE)).trans hT
    have fresh : H s.heap.objs.size = none := I.hok.fresh (Nat.le_refl _)
    have new : ObjOk X.prog X.w (upd H s.heap.objs.size (.tup [.int (i : Nat), x])) h2 s.heap.objs.size (.tup [.int (i : Nat), x]) := by
      refine ⟨?_, [.int i tk, y], .cons ⟨_, rfl⟩ (.cons ru .nil), _, hT2, rfl, _, rfl⟩
      show 2 ≤ sizeLine
      decide
    have I1 : Inv X pins σ (upd H s.heap.objs.size (.tup [.int (i : Nat), x])) { s with heap := h2, toks := tk + 1 } := by
      refine I.turnedNew (ch := [e, it]) (fun b ob hb q => ?_) hf (Nat.le_refl _) new
      have b1 : b ≠ e := fun z => hb (by rw [z]; exact List.mem_cons_self)
      have b2 : b ≠ it := fun z => hb (by rw [z]; exact List.mem_cons_of_mem _ List.mem_cons_self)
      exact (at2 b b1).trans (kp b ob b1 b2 q)
    refine ⟨.ref s.heap.objs.size, _, I1, rfl, ⟨_, x, ⟨rfl, fresh⟩, rfl, fun ys hy => by rw [I.tuple_inj hy hq]; exact hx⟩, ⟨st1.1.at fun o z => (at2 it (Ne.symm hne)).trans z, hne, y, ?_⟩, fun b hb => ?_⟩
    · rw [show ((i + 1 : Nat) : Int) = (i : Int) + 1 from by omega]
      exact he2
    · rw [upd_ne (Nat.ne_of_lt (show b < s.heap.objs.size from ?_))]
      · exact (hf b hb).1
      · rcases List.mem_cons.mp hb with z | z
        · rw [z]; exact sE
        · rw [List.mem_singleton.mp z]; exact sI
  done := by
    intro X hP hw hK hc i pins s σ H E I hf st hg
    subst hP hw hK
    obtain ⟨hit, hne, old, he⟩ := st
    obtain ⟨xs, hq, hx⟩ := hg
    obtain ⟨its, rv, hT0⟩ := tup_at I hq
    have hl := rv.length
    have hend : its.toArray[i]? = none := by
      simp
      omega
    have D := draws_end (prog := X.prog) (w := X.w) (A := X.A.in1) (it := it) (a := a) (i := i) (I.ok.hd hc) hend
    obtain ⟨f0, f1, f2, f3, f4, f5⟩ := hf it (List.mem_cons_of_mem _ List.mem_cons_self)
    exact wpAny_pyNext_enum_endD D he ⟨rfl, hit, hT0⟩ fun h' eb => ⟨rfl, I.turned (t' := s.toks) (fun b o hb q => eb b o hb q) f0 f1 f3 f4 f5⟩
def iEnT (K : PySem.W.Frag) (ta : TA) : TI := fun σ H R => ta σ H fun vs H1 => ∃ (a : Addr) (xs : List V), (vs = [.ref a] ∧ SqT K H1 a xs) ∧ R (IteT K a) H1
theorem pi_enT {X : Cx} {e : Expr} {ta : TA} {p pos tp : Pos} {elts : List Expr} {kk : Nat} (hg : Gl X "enumerate") (hm : X.mg "enumerate" = none) (ha : PA X [e] ta) (hs : starEach [e] X.env = [(false, eval e X.env)]) :
    PI X (.Tuple elts kk tp) (.Call (.Name "enumerate" p) [e] [] pos) (iEnT X.K ta) := by
  refine ⟨fun pins s σ H R I h => ?_⟩
  have run := ha.run pos pins s σ H _ I h
  refine Call_ (ld_blt I hg hm boot_enumerate (PyProof.Rows.callWith_type1 (thn run fun us s1 hh => ?_) hs rfl))
  obtain ⟨vs, H1, I1, r1, a, xs, ⟨rfl, hq⟩, q⟩ := hh
  cases r1 with
  | cons r rr =>
    cases rr
    cases r
    obtain ⟨its, rv, hT0⟩ := tup_at I1 hq
    refine call_en (begins_tuple a its.toArray) hT0 fun h1 he hi kp => wpAny_pyIter_enum he ?_
    refine ⟨s1.heap.objs.size + 1, [s1.heap.objs.size + 1, s1.heap.objs.size], _, _, H1, rfl, I1.kept (t' := s1.toks) kp, turn_enT a (s1.heap.objs.size + 1) s1.heap.objs.size, ⟨⟨_, hi, rfl, rfl⟩, Nat.succ_ne_self _, .none, he⟩, fun b hb => ?_, q⟩
    have le : s1.heap.objs.size ≤ b := by
      rcases List.mem_cons.mp hb with z | z
      · rw [z]; exact Nat.le_succ _
      · rw [List.mem_singleton.mp z]; exact Nat.le_refl _
    exact I1.fpOk le (I1.hok.fresh le)
end PF
end

/-! ## PfS9b -/
section
/-! PfS9b: zip of a list or tuple with a list or tuple. -/
set_option linter.all false
set_option autoImplicit false
set_option maxRecDepth 100000
set_option maxHeartbeats 2000000
namespace PF
open PySem L2 PyProof.Rows
open Sem (wp)
def SqX (k : Bool) (K : PySem.W.Frag) (H : Hp) (a : Addr) (xs : List V) : Prop := match k with
  | true => SqT K H a xs
  | false => SqL K H a xs
def ItAt (k : Bool) (h : Heap) (it a : Addr) (i : Nat) : Prop := match k with
  | true => h.IsTupleIter it a i
  | false => h.IsListIter it a i
theorem ItAt.to {k : Bool} {h h' : Heap} {it a : Addr} {i : Nat} (x : ItAt k h it a i) (q : ∀ o, h.get? it = some o → h'.get? it = some o) : ItAt k h' it a i := by
  cases k
  · exact Heap.IsListIter.at x q
  · exact Heap.IsTupleIter.at x q
theorem ItAt.live {k : Bool} {h : Heap} {it a : Addr} {i : Nat} (x : ItAt k h it a i) : ∃ o, h.get? it = some o ∧ ∀ v, o.data ≠ .cell v := by
  cases k
  · obtain ⟨o, e, _, d⟩ := x; exact ⟨o, e, fun v q => by rw [d] at q; cases q⟩
  · obtain ⟨o, e, _, d⟩ := x; exact ⟨o, e, fun v q => by rw [d] at q; cases q⟩
theorem draws_endL {prog : Program} {w : World} {A : Around} {it a : Addr} {items : Array Value} {i : Nat} (hh : A.handled = none) (he : items[i]? = none) :
    Draws prog w A it [it, a] i (fun _ _ => False) fun j h => j = i ∧ h.IsListIter it a i ∧ h.IsList a items where
  live := fun j h st => by
    obtain ⟨_, ⟨o, ho, _⟩, _⟩ := st
    exact ⟨o, ho⟩
  frame := fun j h h' st k => ⟨st.1, st.2.1.at fun o z => k it List.mem_cons_self o z, st.2.2.at fun o z => k a (List.mem_cons_of_mem _ List.mem_cons_self) o z⟩
  item := fun j s Q E hj st _ => absurd st.1 (Nat.ne_of_lt hj)
  done := fun s Q E st hE => wpAny_nextOf_list_end hh st.2.1 st.2.2 he hE
section
variable {X : Cx} {pins : List (Addr × Obj)} {σ : L2.St} {H : Hp} {s : Shared}
theorem srcX (I : Inv X pins σ H s) {A : Around} (hh : A.handled = none) {it a : Addr} {i : Nat} (hne : a ≠ it) (k : Bool) {xs : List V} (hq : SqX k X.K H a xs) (hit : ItAt k s.heap it a i) :
    ∃ (n : Nat) (P : Nat → Value → Prop) (St : Nat → Heap → Prop) (its : List Value), Vals xs its ∧ Draws X.prog X.w A it [it, a] n P St ∧ St i s.heap ∧ i ≤ n ∧ (xs.length ≤ i → i = n) ∧ (∀ x, xs[i]? = some x → i < n) ∧ (∀ v, P i v → its[i]? = some v) ∧ ∀ j h, St j h → ItAt k h it a j := by
  cases k with
  | true =>
    obtain ⟨its, rv, hT0⟩ := tup_at I (show SqT X.K H a xs from hq)
    have hl := rv.length
    by_cases lt : i < its.length
    · refine ⟨_, _, _, its, rv, Draws.tuple hh it a hne its.toArray, ⟨hit, hT0⟩, by simp; omega, fun z => by omega, fun x _ => by simp; omega, fun v z => by simpa using z, fun j h st => st.1⟩
    · refine ⟨_, _, _, its, rv, draws_end (items := its.toArray) hh (by simp; omega), ⟨rfl, hit, hT0⟩, Nat.le_refl _, fun _ => rfl, fun x z => ?_, fun v z => z.elim, fun j h st => by rw [st.1]; exact st.2.1⟩
      have := (List.getElem?_eq_some_iff.mp z).1
      omega
  | false =>
    obtain ⟨its, rv, p, _⟩ := I.list (show SqL X.K H a xs from hq)
    have hT0 := p.isList
    have hl := rv.length
    by_cases lt : i < its.length
    · refine ⟨_, _, _, its, rv, Draws.list hh it a hne its.toArray, ⟨hit, hT0⟩, by simp; omega, fun z => by omega, fun x _ => by simp; omega, fun v z => by simpa using z, fun j h st => st.1⟩
    · refine ⟨_, _, _, its, rv, draws_endL (items := its.toArray) hh (by simp; omega), ⟨rfl, hit, hT0⟩, Nat.le_refl _, fun _ => rfl, fun x z => ?_, fun v z => z.elim, fun j h st => by rw [st.1]; exact st.2.1⟩
      have := (List.getElem?_eq_some_iff.mp z).1
      omega
theorem sqX_inj (I : Inv X pins σ H s) {k : Bool} {a : Addr} {xs ys : List V} (h : SqX k X.K H a xs) (h' : SqX k X.K H a ys) : xs = ys := by
  cases k
  · exact I.list_inj h h'
  · exact I.tuple_inj h h'
theorem beginsX (I : Inv X pins σ H s) {k : Bool} {a : Addr} {xs : List V} (h : SqX k X.K H a xs) : ∃ (o : Obj) (C : Heap → Prop), Begins (.ref a) o C ∧ C s.heap ∧ a < s.heap.objs.size ∧ ∀ (h' : Heap) (it : Addr), h'.get? it = some o → ItAt k h' it a 0 := by
  cases k with
  | true =>
    obtain ⟨its, rv, hT0⟩ := tup_at I (show SqT X.K H a xs from h)
    refine ⟨_, _, begins_tuple a its.toArray, hT0, ?_, fun h' it z => ⟨_, z, rfl, rfl⟩⟩
    obtain ⟨o, e, _⟩ := hT0
    exact Heap.lt_size e
  | false =>
    obtain ⟨its, rv, p, _⟩ := I.list (show SqL X.K H a xs from h)
    exact ⟨_, _, begins_list a its.toArray, p.isList, p.lt, fun h' it z => ⟨_, z, rfl, rfl⟩⟩
end
/-- the two as they stand at each turn, the items in new pairs -/
def ItzX (k1 k2 : Bool) (K : PySem.W.Frag) (a b : Addr) : It :=
  ⟨fun i H => ∃ (xs ys : List V) (x y : V), SqX k1 K H a xs ∧ SqX k2 K H b ys ∧ xs[i]? = some x ∧ ys[i]? = some y,
    fun i H v H' => ∃ T x y, v = .ref T ∧ H T = none ∧ H' = upd H T (.tup [x, y]) ∧ (∀ xs, SqX k1 K H a xs → xs[i]? = some x) ∧ ∀ ys, SqX k2 K H b ys → ys[i]? = some y,
    fun i H => ∃ xs ys : List V, SqX k1 K H a xs ∧ SqX k2 K H b ys ∧ (xs.length ≤ i ∨ ys.length ≤ i)⟩
theorem sepX {a b z TI TO i1 i2 : Addr} (D : ZipApart z TI TO i1 i2 a b) : ZipSep2 z TI TO i1 i2 [i1, a] [i2, b] where
  TIz := D.TIz
  TOz := D.TOz
  TITO := D.TITO
  TIi1 := D.TIi1
  mem1 := List.mem_cons_self
  zf1 := by simp only [List.mem_cons, List.not_mem_nil, or_false, not_or]; exact ⟨D.i1z.symm, D.l1z.symm⟩
  Tf1 := by simp only [List.mem_cons, List.not_mem_nil, or_false, not_or]; exact ⟨D.TOi1, D.l1TO.symm⟩
  TIi2 := D.TIi2
  mem2 := List.mem_cons_self
  zf2 := by simp only [List.mem_cons, List.not_mem_nil, or_false, not_or]; exact ⟨D.i2z.symm, D.l2z.symm⟩
  Tf2 := by simp only [List.mem_cons, List.not_mem_nil, or_false, not_or]; exact ⟨D.TOi2, D.l2TO.symm⟩
  sep1_2 := by simp only [List.mem_cons, List.not_mem_nil, or_false, not_or]; exact ⟨D.i12, D.l2i1.symm⟩
  sep2_1 := by simp only [List.mem_cons, List.not_mem_nil, or_false, not_or]; exact ⟨D.i12.symm, D.l1i2.symm⟩
theorem turn_zipX {P : Program} {w : World} {K : PySem.W.Frag} {elts : List Expr} {kk : Nat} {tpos : Pos} {a b z TI TO i1 i2 : Addr} (k1 k2 : Bool) (D : ZipApart z TI TO i1 i2 a b) :
    Turn P w K (.Tuple elts kk tpos) (ItzX k1 k2 K a b) [z, TI, TO, i1, i2] z (fun i h => IsZip h z TI TO .none ∧ IsTupOf2 h TI (.ref i1) (.ref i2) ∧ (∃ x y, IsTupOf2 h TO x y) ∧ ItAt k1 h i1 a i ∧ ItAt k2 h i2 b i) where
  mem := by simp
  obj := fun i h st c hc => by
    obtain ⟨hz, hTI, ⟨x, y, hTO⟩, l1, l2⟩ := st
    have e' : c = z ∨ c = TI ∨ c = TO ∨ c = i1 ∨ c = i2 := by simpa using hc
    rcases e' with q | q | q | q | q
    · rw [q]; exact ⟨_, hz, fun v q => nomatch q⟩
    · rw [q]; exact ⟨_, hTI, fun v q => nomatch q⟩
    · rw [q]; exact ⟨_, hTO, fun v q => nomatch q⟩
    · rw [q]; exact l1.live
    · rw [q]; exact l2.live
  keep := fun i h h' st k => by
    obtain ⟨hz, hTI, ⟨x, y, hTO⟩, h1, h2⟩ := st
    exact ⟨k z (by simp) _ hz, k TI (by simp) _ hTI, ⟨x, y, k TO (by simp) _ hTO⟩, h1.to fun o q => k i1 (by simp) o q, h2.to fun o q => k i2 (by simp) o q⟩
  item := by
    intro X hP hw hK hc i pins s σ H E I hf st hg
    subst hP hw hK
    obtain ⟨hz, hTI, ⟨x0, y0, hTO⟩, h1, h2⟩ := st
    obtain ⟨xs, ys, x, y, hqx, hqy, hx, hy⟩ := hg
    obtain ⟨n1, P1, S1, its, rv, D1, st1, _, _, b1, c1, d1⟩ := srcX I (A := X.A.in1) (I.ok.hd hc) D.l1i1 k1 hqx h1
    obtain ⟨n2, P2, S2, its2, rv2, D2, st2, _, _, b2, c2, d2⟩ := srcX I (A := X.A.in1) (I.ok.hd hc) D.l2i2 k2 hqy h2
    obtain ⟨u, hu, ru⟩ := rv.get hx
    obtain ⟨u2, hu2, ru2⟩ := rv2.get hy
    have hzl : z < s.heap.objs.size := Heap.lt_size hz
    have sI1 : i1 < s.heap.objs.size := by obtain ⟨o, q, _⟩ := h1.live; exact Heap.lt_size q
    have sI2 : i2 < s.heap.objs.size := by obtain ⟨o, q, _⟩ := h2.live; exact Heap.lt_size q
    refine wpAny_pyNext_zipD2_item (sepX D) D1 D2 hz hTI hTO st1 st2 (b1 x hx) (b2 y hy) fun v1 v2 h' tk g1 g2 z' TO' st1' st2' hT hsz hk => ?_
    have ev1 : v1 = u := Option.some.inj ((c1 v1 g1).symm.trans hu)
    have ev2 : v2 = u2 := Option.some.inj ((c2 v2 g2).symm.trans hu2)
    subst ev1 ev2
    refine ⟨_, rfl, wpAny_letOwnedTupleGo_zip (s := { s with heap := h', toks := tk }) z' fun h'' z'' sb => ?_⟩
    have hT2 : h''.get? s.heap.objs.size = some { cls := .type "tuple", data := .seq #[v1, v2] } := (sb.2 _ (Nat.ne_of_gt hzl)).trans hT
    have new : ObjOk X.prog X.w (upd H s.heap.objs.size (.tup [x, y])) h'' s.heap.objs.size (.tup [x, y]) :=
      ⟨by show 2 ≤ sizeLine; decide, [v1, v2], .cons ru (.cons ru2 .nil), ⟨_, hT2, rfl, _, rfl⟩⟩
    have I1 : Inv X pins σ (upd H s.heap.objs.size (.tup [x, y])) { s with heap := h'', toks := tk } :=
      I.turnedNew (t' := tk) (ch := [z, TI, TO, i1, i2]) (fun c o hb q => (sb.2 c (fun q' => hb (by simp [q']))).trans (hk c o (fun q' => hb (by simp [q'])) (fun q' => hb (by simp [q'])) (fun q' => hb (by simp [q'])) (fun q' => hb (by simp [q'])) q)) hf (Nat.le_refl _) new
    refine ⟨.ref s.heap.objs.size, _, I1, rfl, ⟨_, x, y, rfl, I.hok.fresh (Nat.le_refl _), rfl, fun l hl => by rw [sqX_inj I hl hqx]; exact hx, fun l hl => by rw [sqX_inj I hl hqy]; exact hy⟩, ⟨z'', ?_, ⟨v1, v2, ?_⟩, ?_, ?_⟩, fun c hcm => ?_⟩
    · exact (sb.2 _ D.TIz).trans (hk _ _ D.TIz D.TITO D.TIi1 D.TIi2 hTI)
    · exact (sb.2 _ D.TOz).trans TO'
    · exact (d1 _ _ st1').to fun o q => (sb.2 _ D.i1z).trans q
    · exact (d2 _ _ st2').to fun o q => (sb.2 _ D.i2z).trans q
    · have hlt : c < s.heap.objs.size := by
        have e' : c = z ∨ c = TI ∨ c = TO ∨ c = i1 ∨ c = i2 := by simpa using hcm
        rcases e' with q | q | q | q | q
        · rw [q]; exact hzl
        · rw [q]; exact Heap.lt_size hTI
        · rw [q]; exact Heap.lt_size hTO
        · rw [q]; exact sI1
        · rw [q]; exact sI2
      rw [upd_ne (Nat.ne_of_lt hlt)]
      exact (hf c hcm).1
  done := by
    intro X hP hw hK hc i pins s σ H E I hf st hg
    subst hP hw hK
    obtain ⟨hz, hTI, ⟨x0, y0, hTO⟩, h1, h2⟩ := st
    obtain ⟨xs, ys, hqx, hqy, hend⟩ := hg
    obtain ⟨n1, P1, S1, its, rv, D1, st1, a1, e1, b1, c1, d1⟩ := srcX I (A := X.A.in1) (I.ok.hd hc) D.l1i1 k1 hqx h1
    obtain ⟨n2, P2, S2, its2, rv2, D2, st2, a2, e2, b2, c2, d2⟩ := srcX I (A := X.A.in1) (I.ok.hd hc) D.l2i2 k2 hqy h2
    exact wpAny_pyNext_zipD2_end (sepX D) D1 D2 hz hTI hTO st1 st2 a1 a2 (hend.imp e1 e2) fun h' tk hk => ⟨rfl, I.turnedL (t' := tk) (ch := [z, TI, TO, i1, i2]) (fun c o hb q =>
      hk c o (fun q' => hb (by simp [q'])) (fun q' => hb (by simp [q'])) (fun q' => hb (by simp [q'])) (fun q' => hb (by simp [q'])) q) hf⟩
  self := fun A i s Q E st h => wpAny_pyIter_zip st.1 h
def iZipX (K : PySem.W.Frag) (ta : TA) : TI := fun σ H R => ta σ H fun vs H1 => ∃ (a b : Addr) (xs ys : List V) (k1 k2 : Bool), vs = [.ref a, .ref b] ∧ SqX k1 K H1 a xs ∧ SqX k2 K H1 b ys ∧ R (ItzX k1 k2 K a b) H1
theorem pi_zipX {X : Cx} {e e2 : Expr} {ta : TA} {p pos tpos : Pos} {elts : List Expr} {kk : Nat} (hg : Gl X "zip") (hm : X.mg "zip" = none) (ha : PA X [e, e2] ta)
    (hs : starEach [e, e2] X.env = (false, eval e X.env) :: starEach [e2] X.env := by rfl) (hpl : (backTo pos (starEach [e2] X.env)).any (·.1) = false := by rfl) :
    PI X (.Tuple elts kk tpos) (.Call (.Name "zip" p) [e, e2] [] pos) (iZipX X.K ta) := by
  refine ⟨fun pins s σ H R I h => ?_⟩
  refine Call_ (ld_blt I hg hm PyProof.Rows.boot_zip (PyProof.Rows.callWith_type1 (thn (ha.run pos pins s σ H _ I h) fun us s1 ⟨vs, H1, I1, r1, q1⟩ => ?_) hs hpl))
  obtain ⟨a, b, xs, ys, k1, k2, ex, hqx, hqy, q⟩ := q1
  subst ex
  cases r1 with
  | cons r rr =>
    cases rr with
    | cons r' rr =>
      cases rr
      cases r
      cases r'
      have fresh5 : ∀ c, c ∈ [s1.heap.objs.size + 4, s1.heap.objs.size + 2, s1.heap.objs.size + 3, s1.heap.objs.size, s1.heap.objs.size + 1] → FpOk X pins H1 c := fun c hcm => by
        have e' : c = s1.heap.objs.size + 4 ∨ c = s1.heap.objs.size + 2 ∨ c = s1.heap.objs.size + 3 ∨ c = s1.heap.objs.size ∨ c = s1.heap.objs.size + 1 := by simpa using hcm
        have hle : s1.heap.objs.size ≤ c := by
          rcases e' with z | z | z | z | z
          · rw [z]; exact Nat.le_add_right _ _
          · rw [z]; exact Nat.le_add_right _ _
          · rw [z]; exact Nat.le_add_right _ _
          · rw [z]; exact Nat.le_refl _
          · rw [z]; exact Nat.le_add_right _ _
        exact I1.fpOk hle (I1.hok.fresh hle)
      obtain ⟨o1, C1, B1, s1', l1, g1⟩ := beginsX I1 hqx
      obtain ⟨o2, C2, B2, s2', l2, g2⟩ := beginsX I1 hqy
      refine zip_begins2 B1 B2 s1' s2' fun h' hz hTI hTO h1 h2 hsz hk => wpAny_pyIter_zip hz ?_
      have I2 : Inv X pins σ H1 { s1 with heap := h' } := I1.kept (t' := s1.toks) hk
      exact ⟨s1.heap.objs.size + 4, [s1.heap.objs.size + 4, s1.heap.objs.size + 2, s1.heap.objs.size + 3, s1.heap.objs.size, s1.heap.objs.size + 1], _, _, H1, rfl, I2, turn_zipX k1 k2 (PySem.W.ktu_apart s1.heap.objs.size a b l1 l2), ⟨hz, hTI, ⟨_, _, hTO⟩, g1 _ _ h1, g2 _ _ h2⟩, fresh5, q⟩
end PF
end

/-! ## PfX5 -/
section
/-! PfX5: len(set(x)), x a list or tuple of ints. -/
set_option linter.all false
set_option autoImplicit false
set_option maxRecDepth 100000
set_option maxHeartbeats 2000000
namespace PF
open PySem L2 PyProof.Rows
open Sem (wp)
theorem mem_nubI (y : Int) : ∀ xs : List Int, y ∈ nubI xs ↔ y ∈ xs
  | [] => by simp [nubI]
  | x :: xs => by
    have ih := mem_nubI y xs
    unfold nubI
    by_cases h : x ∈ xs
    · rw [if_pos h, ih]
      constructor
      · exact fun z => List.mem_cons_of_mem _ z
      · intro z
        rcases List.mem_cons.mp z with rfl | z
        · exact h
        · exact z
    · rw [if_neg h, List.mem_cons, List.mem_cons, ih]
theorem nodup_nubI : ∀ xs : List Int, (nubI xs).Nodup
  | [] => by simp [nubI]
  | x :: xs => by
    unfold nubI
    by_cases h : x ∈ xs
    · rw [if_pos h]; exact nodup_nubI xs
    · rw [if_neg h, List.nodup_cons]
      exact ⟨fun z => h ((mem_nubI x xs).mp z), nodup_nubI xs⟩
theorem nub_len {l ns : List Int} (h : l.Nodup) (hm : ∀ k, k ∈ l ↔ k ∈ ns) : l.length = (nubI ns).length :=
  ((List.perm_ext_iff_of_nodup h (nodup_nubI ns)).mpr fun k => (hm k).trans (mem_nubI k ns).symm).length_eq
theorem step_nodup {σ : List Int} (v : Int) (h : σ.Nodup) : (step_dedup σ v).Nodup := by
  unfold step_dedup
  by_cases e : σ.any (· == v) = true
  · rw [if_pos e]; exact h
  · rw [if_neg e, List.nodup_append]
    refine ⟨h, by simp, fun a ha b hb => ?_⟩
    rw [List.mem_singleton.mp hb]
    exact fun z => e (List.any_eq_true.mpr ⟨a, ha, by simp [z]⟩)
theorem first_nodup (val : Nat → Int) : ∀ i, (firstMet val i).Nodup
  | 0 => by rw [firstMet_zero]; simp
  | i + 1 => by rw [firstMet_succ]; exact step_nodup _ (first_nodup val i)
theorem first_mem (ns : List Int) (k : Int) : k ∈ firstMet (fun i => ns.getD i 0) ns.length ↔ k ∈ ns := by
  have h := firstMet_any (fun i => ns.getD i 0) ns.length k
  have e : (List.range ns.length).map (fun i => ns.getD i 0) = ns := by
    apply List.ext_getElem?
    intro i
    rw [List.getElem?_map]
    by_cases hi : i < ns.length
    · simp [hi]
    · rw [List.getElem?_eq_none (by simpa using hi), List.getElem?_eq_none (by simpa using hi)]; rfl
  rw [e] at h
  have m : ∀ l : List Int, l.any (· == k) = true ↔ k ∈ l := fun l => by
    rw [List.any_eq_true]
    constructor
    · rintro ⟨x, hx, e⟩
      rw [← eq_of_beq e]; exact hx
    · exact fun h => ⟨k, h, beq_self_eq_true k⟩
  rw [← m, ← m, h]
def tLset (K : PySem.W.Frag) (ta : TE) : TE := fun σ H Q => ta σ H fun x H1 => ∃ (l : Addr) (ns : List Int), x = .ref l ∧ (SqL K H1 l (ns.map V.int) ∨ SqT K H1 l (ns.map V.int)) ∧ ns.length ≤ 4000 ∧ Q (.int ((nubI ns).length : Nat)) H1
theorem pe_lset {X : Cx} {a : Expr} {ta : TE} {p p2 q pos : Pos} (hg : Gl X "len") (hm : X.mg "len" = none) (hg2 : Gl X "set") (hm2 : X.mg "set" = none) (ha : PE X a ta) (hc : X.calm = true)
    (na : starEach [a] X.env = (false, eval a X.env) :: starEach [] X.env) : PE X (.Call (.Name "len" p) [.Call (.Name "set" p2) [a] [] q] [] pos) (tLset X.K ta) := by
  refine ⟨fun pins s σ H Q I h => ?_⟩
  refine Call_ (ld_blt I hg hm boot_len ?_)
  refine PyProof.Rows.callWith_builtin1 (PyProof.Rows.args_cons ?_ rfl) rfl rfl
  refine Call_ (ld_blt I hg2 hm2 boot_set ?_)
  refine PyProof.Rows.callWith_type1 (PyProof.Rows.args_cons (thn (ha.run pins s σ H _ I h) fun v s1 ⟨x, H1, I1, r1, q1⟩ => PyProof.Rows.args_nil ?_) na) na rfl
  obtain ⟨l, ns, rfl, hq, hl, q1⟩ := q1
  cases r1
  rcases hq with hq | hq
  · obtain ⟨its, r, pl, hz⟩ := I1.list hq
    have hlen : its.toArray.size = ns.length := by rw [List.size_toArray, ← r.length, List.length_map]
    refine call_set_list (I1.ok.hd hc) pl.isList (by simpa using RZ.intsAre_vals r) (by rw [hlen]; unfold scanBound; omega) fun h' tk hS hk => ?_
    refine PyProof.Rows.args_nil ?_
    rw [hlen] at hS
    obtain ⟨o, es, ep, t, ho, hex, hd, _, _, _, hf, hn⟩ := hS
    have I2 : Inv X pins σ H1 { s1 with heap := h', toks := tk } := I1.kept fun b o e => hk b o (Heap.lt_size e) e
    have en : es.size = (nubI ns).length := by rw [hn]; exact nub_len (first_nodup _ _) (first_mem ns)
    have hle : (firstMet (fun i => ns.getD i 0) ns.length).length ≤ ns.length := firstMet_length_le _ _
    exact call_len_set ho hex hd hf (by rw [hn] <;> omega) ⟨.int (nubI ns).length, H1, I2.tok _, ⟨_, by rw [en]⟩, q1⟩
  · obtain ⟨its, rv, hT0⟩ := tup_at I1 hq
    refine call_set_tupI ns (I1.ok.hd hc) hT0 (by simpa using RZ.intsAre_vals rv) (by unfold scanBound; omega) fun h' tk c hS hcl hk => ?_
    refine PyProof.Rows.args_nil ?_
    obtain ⟨o, es, ep, t, ho, hex, hd, _, hnd, hmem, _, hf, hn, _⟩ := hS
    have I2 : Inv X pins σ H1 { s1 with heap := h', toks := tk } := I1.kept hk
    have en : es.size = (nubI ns).length := by
      have := nub_len (l := es.toList.map keyOf) (ns := ns) hnd fun k => (hmem k).symm.trans (by simp)
      rw [← this]; simp
    exact call_len_set ho hex hd hf (by rw [hn] <;> omega) ⟨.int (nubI ns).length, H1, I2.tok _, ⟨_, by rw [en]⟩, q1⟩
end PF
end

/-! ## PfX6 -/
section
/-! PfX6: len(set(x)), by data. -/
set_option linter.all false
set_option autoImplicit false
set_option maxRecDepth 100000
namespace PF
open PySem L2
section
variable {X : Cx} {W : WX}
theorem se_lset (hc : X.calm = true) {a : Expr} {ma : PF.Env → M D} {p p2 q pos : Pos} (hg : Gl X "len") (hm : X.mg "len" = none) (hg2 : Gl X "set") (hm2 : X.mg "set" = none) (hn : nstar a = true) (ha : SB X W a ma) :
    SE X W (.Call (.Name "len" p) [.Call (.Name "set" p2) [a] [] q] [] pos) fun ρ => M.bind (ma ρ) fun x => M.lift (lsetO x) := by
  obtain ⟨ta, a1, a2⟩ := ha
  refine ⟨_, pe_lset hg hm hg2 hm2 a1 hc (star_cons hn), fun σ H G ρ c Q at0 p => ?_⟩
  refine a2 σ H G ρ c _ at0 (p.bind fun x c1 v H1 G1 e1 t1 q1 r1 p1 => ?_)
  obtain ⟨z, ez, k⟩ := p1.lift1
  cases x <;> simp only [lsetO, reduceCtorEq] at ez
  · rename_i xs
    unfold lsetI at ez
    rw [Option.bind_eq_some_iff] at ez
    obtain ⟨is, hi, ez⟩ := ez
    split at ez
    · rename_i hl
      cases ez
      obtain ⟨l, vs, o, rfl, na, h1, hd, h2⟩ := r1
      have e2 := h2.ints hi
      subst e2
      exact ⟨l, is, rfl, .inr (sqT h1), hl, k _ H1 G1 (Ext.refl _ _) t1 q1 rfl⟩
    · cases ez
  · rename_i xs
    unfold lsetI at ez
    rw [Option.bind_eq_some_iff] at ez
    obtain ⟨is, hi, ez⟩ := ez
    split at ez
    · rename_i hl
      cases ez
      obtain ⟨l, vs, rfl, na, h1, h2⟩ := r1
      have e2 := h2.ints hi
      subst e2
      exact ⟨l, is, rfl, .inl (.of h1), hl, k _ H1 G1 (Ext.refl _ _) t1 q1 rfl⟩
    · cases ez
end
end PF
end

/-! ## PfS10 -/
section
/-! PfS10: the cup, ranges, targets, what is walked. -/
set_option linter.all false
set_option autoImplicit false
namespace PF
open PySem L2
section
variable {X : Cx} {W : WX} {sc : Scope}
theorem se_cup {a b : Expr} {ma mb : PF.Env → M D} {pos : Pos} (na : nstar a = true) (nb : nstar b = true) (ha : SE X W a ma) (hb : SE X W b mb) :
    SE X W (.List [a, b] pos) fun ρ => M.bind (ma ρ) fun x => M.bind (mb ρ) fun y => M.bind (M.lift (asInt x)) fun i => M.bind (M.lift (asInt y)) fun j => newCup i j := by
  obtain ⟨ta, a1, a2⟩ := ha
  obtain ⟨tb, b1, b2⟩ := hb
  refine ⟨_, pe_lst (pa_cons a1 (pa_cons b1 pa_nil (star_cons nb)) (star_cons na)), fun σ H G ρ c Q at0 p => ?_⟩
  refine a2 σ H G ρ c _ at0 (p.bind fun x c1 v H1 G1 e1 t1 q1 r1 p1 => ?_)
  refine b2 σ H1 G1 ρ c1 _ (at0.stay e1 t1 q1) (p1.bind fun y c2 u H2 G2 e2 t2 q2 r2 p2 => ?_)
  obtain ⟨i, ei, p3⟩ := p2.lift
  obtain ⟨j, ej, p4⟩ := p3.lift
  cases x <;> simp [asInt] at ei
  cases y <;> simp [asInt] at ej
  subst ei ej
  cases show v = .int _ from r1
  cases show u = .int _ from r2
  refine ⟨by show 2 ≤ sizeLine; decide, fun p hp => ?_⟩
  cases c2 with
  | some z => exact p4.elim
  | none =>
    have hg : G2.g = none := q2
    refine p4 (.ref p) _ ⟨some p, G2.B, G2.T⟩ ⟨fun a o e _ n => ?_, fun a e => ?_, fun a e => ?_, fun a h => h, fun a h => .inl h, fun a n z => ?_, rfl⟩ ⟨fun a h z => ?_, fun a h z => ?_, t2.tb.made hp True.intro⟩ ⟨p, rfl, upd_same⟩ ⟨p, rfl, rfl⟩
    · rw [upd_ne (ne_of_none e hp)]; exact e
    · rw [hg] at e; cases e
    · cases e; exact .inr (nh_none hp)
    · exact live_upd (by exact True.intro) a n z
    · exact live_upd (by exact True.intro) a (t2.there a h) z
    · cases z; exact t2.there p h (nh_none hp)
theorem rg_ok {i j : Int} (h : rngOk i j = true) : RgOk i j := by
  have h := of_decide_eq_true h
  exact ⟨by omega, by omega, by omega, by omega, by omega⟩
theorem se_trg1 {t : Bool} {a : Expr} {ma : PF.Env → M D} {p p2 pos pos2 : Pos} (hc : X.calm = true) (hg : Gl X (if t then "tuple" else "list")) (hm : X.mg (if t then "tuple" else "list") = none) (hg2 : Gl X "range") (hm2 : X.mg "range" = none) (na : nstar a = true) (ha : SE X W a ma) :
    SE X W (.Call (.Name (if t then "tuple" else "list") p) [.Call (.Name "range" p2) [a] [] pos2] [] pos) fun ρ => M.bind (ma ρ) fun x => M.bind (M.lift (asInt x)) fun i => if rngOk 0 i then M.pure (if t then .tup (rangeD 0 i) else .lst (rangeD 0 i)) else M.stuck := by
  obtain ⟨ta, a1, a2⟩ := ha
  have pr := prg_1 (p := p2) (pos := pos2) hg2 hm2 a1 (star_cons na)
  cases t with
  | true =>
    refine ⟨_, pe_tupRgF hc hg hm pr rfl, fun σ H G ρ c Q at0 p => ?_⟩
    refine a2 σ H G ρ c _ at0 (p.bind fun x c1 v H1 G1 e1 t1 q1 r1 p1 => ?_)
    obtain ⟨i, ei, p2⟩ := p1.lift
    cases x <;> simp [asInt] at ei
    subst ei
    cases show v = .int _ from r1
    split at p2
    · rename_i hr
      exact ⟨_, rfl, rg_ok hr, Go.tup (c := c1) p2 t1 q1 (DenL.range _ _)⟩
    · exact p2.elim
  | false =>
    refine ⟨_, pe_listRg hc hg hm pr rfl, fun σ H G ρ c Q at0 p => ?_⟩
    refine a2 σ H G ρ c _ at0 (p.bind fun x c1 v H1 G1 e1 t1 q1 r1 p1 => ?_)
    obtain ⟨i, ei, p2⟩ := p1.lift
    cases x <;> simp [asInt] at ei
    subst ei
    cases show v = .int _ from r1
    split at p2
    · rename_i hr
      exact ⟨_, rfl, rg_ok hr, Go.lst (c := c1) p2 t1 q1 (DenL.range _ _)⟩
    · exact p2.elim
theorem se_trg2 {t : Bool} {a b : Expr} {ma mb : PF.Env → M D} {p p2 pos pos2 : Pos} (hc : X.calm = true) (hg : Gl X (if t then "tuple" else "list")) (hm : X.mg (if t then "tuple" else "list") = none) (hg2 : Gl X "range") (hm2 : X.mg "range" = none) (na : nstar a = true) (nb : nstar b = true) (ha : SE X W a ma) (hb : SE X W b mb) :
    SE X W (.Call (.Name (if t then "tuple" else "list") p) [.Call (.Name "range" p2) [a, b] [] pos2] [] pos) fun ρ => M.bind (ma ρ) fun x => M.bind (mb ρ) fun y => M.bind (M.lift (asInt x)) fun i => M.bind (M.lift (asInt y)) fun j => if rngOk i j then M.pure (if t then .tup (rangeD i j) else .lst (rangeD i j)) else M.stuck := by
  obtain ⟨ta, a1, a2⟩ := ha
  obtain ⟨tb, b1, b2⟩ := hb
  have pr := prg_2 (p := p2) (pos := pos2) hg2 hm2 a1 b1 (star_cons na) (star_cons nb) (by rw [star_cons nb]; rfl)
  cases t with
  | true =>
    refine ⟨_, pe_tupRgF hc hg hm pr rfl, fun σ H G ρ c Q at0 p => ?_⟩
    refine a2 σ H G ρ c _ at0 (p.bind fun x c1 v H1 G1 e1 t1 q1 r1 p1 => ?_)
    refine b2 σ H1 G1 ρ c1 _ (at0.stay e1 t1 q1) (p1.bind fun y c2 u H2 G2 e2 t2 q2 r2 p2 => ?_)
    obtain ⟨i, ei, p3⟩ := p2.lift
    obtain ⟨j, ej, p4⟩ := p3.lift
    cases x <;> simp [asInt] at ei
    cases y <;> simp [asInt] at ej
    subst ei ej
    cases show v = .int _ from r1
    cases show u = .int _ from r2
    split at p4
    · rename_i hr
      exact ⟨_, _, rfl, rfl, rg_ok hr, Go.tup (c := c2) p4 t2 q2 (DenL.range _ _)⟩
    · exact p4.elim
  | false =>
    refine ⟨_, pe_listRg hc hg hm pr rfl, fun σ H G ρ c Q at0 p => ?_⟩
    refine a2 σ H G ρ c _ at0 (p.bind fun x c1 v H1 G1 e1 t1 q1 r1 p1 => ?_)
    refine b2 σ H1 G1 ρ c1 _ (at0.stay e1 t1 q1) (p1.bind fun y c2 u H2 G2 e2 t2 q2 r2 p2 => ?_)
    obtain ⟨i, ei, p3⟩ := p2.lift
    obtain ⟨j, ej, p4⟩ := p3.lift
    cases x <;> simp [asInt] at ei
    cases y <;> simp [asInt] at ej
    subst ei ej
    cases show v = .int _ from r1
    cases show u = .int _ from r2
    split at p4
    · rename_i hr
      exact ⟨_, _, rfl, rfl, rg_ok hr, Go.lst (c := c2) p4 t2 q2 (DenL.range _ _)⟩
    · exact p4.elim

def rgC (a b c : Int) : List V := (List.range (Builtin.Range.rangeSize a b c).toNat).map fun i => V.int (a + (i : Nat) * c)
theorem vals_rgC {a b c : Int} {acc : Array Value} (h : ItemsOf (fun i v => ∃ t, v = .int (a + i * c) t) acc (Builtin.Range.rangeSize a b c).toNat) : Vals (rgC a b c) acc.toList := by
  have e : acc.toList.length = (Builtin.Range.rangeSize a b c).toNat := by rw [Array.length_toList]; exact h.1
  unfold rgC
  rw [← e]
  refine vals_of_get acc.toList _ fun j u hj => ?_
  obtain ⟨t, rfl⟩ := h.2 j u (by rw [← hj, Array.getElem?_toList])
  exact ⟨t, rfl⟩
theorem den_rgC {K : PySem.W.Frag} {G : Gh} {H : Hp} (a b c : Int) : DenL K G H (rgC a b c) (rangeC a b c) := by
  unfold rgC rangeC
  generalize List.range (Builtin.Range.rangeSize a b c).toNat = l
  induction l with
  | nil => exact True.intro
  | cons i l ih => exact ⟨rfl, ih⟩
theorem pe_tupRg3 {a b c : Expr} {ta : TA} {p p2 pos pos2 : Pos} (hc : X.calm = true) (hg : Gl X "tuple") (hm : X.mg "tuple" = none) (hg2 : Gl X "range") (hm2 : X.mg "range" = none) (na : nstar a = true) (nb : nstar b = true) (nc : nstar c = true) (ha : PA X [a, b, c] ta) :
    PE X (.Call (.Name "tuple" p) [.Call (.Name "range" p2) [a, b, c] [] pos2] [] pos) (fun σ H Q => ta σ H fun vs H1 => ∃ i j k, vs = [.int i, .int j, .int k] ∧ rgCOk i j k = true ∧ NewT H1 (rgC i j k) Q) := by
  refine ⟨fun pins s σ H Q I h => ?_⟩
  refine PyProof.Rows.Call_ (ld_blt I hg hm PyProof.Rows.boot_tuple (PyProof.Rows.callWith_type1 (PyProof.Rows.args_cons ?_ rfl) rfl))
  refine PyProof.Rows.Call_ (ld_blt I hg2 hm2 PyProof.Rows.boot_range (PyProof.Rows.callWith_type1 (thn (ha.run pos2 pins s σ H _ I h) fun us s1 ⟨vs, H1, I1, r1, q1⟩ => ?_) (star_cons na) (by rw [star_cons nb, star_cons nc]; rfl)))
  obtain ⟨i, j, k, rfl, ok, q⟩ := q1
  unfold rgCOk at ok
  simp only [Bool.and_eq_true, decide_eq_true_eq] at ok
  obtain ⟨⟨⟨c0, c1⟩, c2⟩, c3, c4⟩ := ok
  cases r1 with
  | cons r rr =>
    cases rr with
    | cons r' rr =>
      cases rr with
      | cons r'' rr =>
        cases rr
        obtain ⟨t, rfl⟩ := r
        obtain ⟨t', rfl⟩ := r'
        obtain ⟨t'', rfl⟩ := r''
        refine call_range_3 c0 ?_ (.inl (PyProof.noPylong_small c1))
        refine PyProof.Rows.args_nil ?_
        have I2 : L2.Inv X pins σ H1 { s1 with heap := s1.heap.push { cls := .type "range", data := .fields #[.int i t, .int j t', .int k t''] } } := I1.kept (t' := s1.toks) fun b o e => Heap.get?_push_of_some _ e
        refine call_tuple_range (n := (Builtin.Range.rangeSize i j k).toNat) (I1.ok.hd hc) (IsRange.new ..) c2 (Int.toNat_of_nonneg c3).symm (by omega) fun h' tk acc hk hi => ?_
        have r2 : Vals (rgC i j k) acc.toList := vals_rgC hi
        have fin := new_tup (s := { s1 with heap := s1.heap.push { cls := .type "range", data := .fields #[.int i t, .int j t', .int k t''] }, toks := tk }) (tk := tk) (I2.kept (t' := tk) hk) r2 (by unfold rgC; rw [List.length_map, List.length_range, sizeLine_eq]; omega) q
        rw [Array.toArray_toList] at fin
        exact fin
theorem se_trg3 {a b c : Expr} {p p2 pos pos2 : Pos} (hc : X.calm = true) (hg : Gl X "tuple") (hm : X.mg "tuple" = none) (hg2 : Gl X "range") (hm2 : X.mg "range" = none) (na : nstar a = true) (nb : nstar b = true) (nc : nstar c = true) {ma mb mc : PF.Env → M D} (ha : SE X W a ma) (hb : SE X W b mb) (hcc : SE X W c mc) :
    SE X W (.Call (.Name "tuple" p) [.Call (.Name "range" p2) [a, b, c] [] pos2] [] pos) fun ρ => M.bind (ma ρ) fun x => M.bind (mb ρ) fun y => M.bind (mc ρ) fun z => M.bind (M.lift (asInt x)) fun i => M.bind (M.lift (asInt y)) fun j => M.bind (M.lift (asInt z)) fun k => if rgCOk i j k then M.pure (.tup (rangeC i j k)) else M.stuck := by
  obtain ⟨ta, a1, a2⟩ := ha
  obtain ⟨tb, b1, b2⟩ := hb
  obtain ⟨tc, c1, c2⟩ := hcc
  refine ⟨_, pe_tupRg3 hc hg hm hg2 hm2 na nb nc (pa_cons a1 (pa_cons b1 (pa_cons c1 pa_nil (star_cons nc)) (star_cons nb)) (star_cons na)), fun σ H G ρ cu Q at0 p => ?_⟩
  refine a2 σ H G ρ cu _ at0 (p.bind fun x c3 v H1 G1 e1 t1 q1 r1 p1 => ?_)
  refine b2 σ H1 G1 ρ c3 _ (at0.stay e1 t1 q1) (p1.bind fun y c4 u H2 G2 e2 t2 q2 r2 p2 => ?_)
  refine c2 σ H2 G2 ρ c4 _ ((at0.stay e1 t1 q1).stay e2 t2 q2) (p2.bind fun z c5 w H3 G3 e3 t3 q3 r3 p3 => ?_)
  obtain ⟨i, ei, p4⟩ := p3.lift
  obtain ⟨j, ej, p5⟩ := p4.lift
  obtain ⟨k, ek, p6⟩ := p5.lift
  cases x <;> simp [asInt] at ei
  cases y <;> simp [asInt] at ej
  cases z <;> simp [asInt] at ek
  subst ei ej ek
  cases show v = .int _ from r1
  cases show u = .int _ from r2
  cases show w = .int _ from r3
  split at p6
  · rename_i hr
    exact ⟨_, _, _, rfl, hr, Go.tup (c := c5) p6 t3 q3 (den_rgC _ _ _)⟩
  · exact p6.elim

/-! ### targets -/
/-- what a target takes: for a tuple of names any tuple -/
def WDen (K : PySem.W.Frag) (G : Gh) (H : Hp) (t : Tg) (v : V) (d : D) : Prop := match t with
  | .nm _ => Den K G H v d
  | .tp _ => ∃ ds a vs, d = .tup ds ∧ v = .ref a ∧ SqT K H a vs ∧ DenL K G H vs ds
theorem Den.w {K : PySem.W.Frag} {G : Gh} {H : Hp} {t : Tg} {v : V} {d d' : D} {ρ : PF.Env} {ρ' : PF.Env} (h : Den K G H v d) (b : bindT t d ρ = some ρ') : WDen K G H t v d := by
  cases t with
  | nm i => exact h
  | tp ts =>
    cases d <;> simp [bindT] at b
    obtain ⟨a, vs, o, rfl, na, h1, hd, h2⟩ := h
    exact ⟨_, a, vs, rfl, rfl, sqT h1, h2⟩
theorem at_set {K : PySem.W.Frag} {G : Gh} {H : Hp} {σ : L2.St} {ρ : PF.Env} {c : Cup} (a : At K G H σ ρ c) {i : Nat} {v : V} {d : D} (h : Den K G H v d) : At K G H (σ.set i (some v)) (setS ρ i d) c where
  sh := fun j e hj => by
    unfold setS at hj
    by_cases e1 : i = j
    · subst e1
      have hi : i < ρ.length := by
        rcases Nat.lt_or_ge i ρ.length with z | z
        · exact z
        · rw [List.getElem?_eq_none (by simpa using z)] at hj; cases hj
      rw [List.getElem?_set_self hi] at hj
      cases hj
      exact ⟨v, List.getElem?_set_self (by have := a.len; omega), h⟩
    · rw [List.getElem?_set_ne e1] at hj
      obtain ⟨v', h1, h2⟩ := a.sh j e hj
      exact ⟨v', by rw [List.getElem?_set_ne e1]; exact h1, h2⟩
  ow := fun j e hj => by
    unfold setS at hj
    by_cases e1 : i = j
    · subst e1
      have hi : i < ρ.length := by
        rcases Nat.lt_or_ge i ρ.length with z | z
        · exact z
        · rw [List.getElem?_eq_none (by simpa using z)] at hj; cases hj
      rw [List.getElem?_set_self hi] at hj
      cases hj
    · rw [List.getElem?_set_ne e1] at hj
      obtain ⟨v', h1, h2⟩ := a.ow j e hj
      exact ⟨v', by rw [List.getElem?_set_ne e1]; exact h1, h2⟩
  trk := a.trk
  cup := a.cup
  len := by simp [setS, a.len]
  tq := a.tq
/-- how a target is bound -/
def GOk (K : PySem.W.Frag) (t : Tg) (g : TG) : Prop := ∀ σ H G ρ c v d ρ' (Q : L2.St → Hp → Prop), At K G H σ ρ c → WDen K G H t v d → bindT t d ρ = some ρ' →
  (∀ σ', At K G H σ' ρ' c → (∀ i, i ∉ t.slots → σ'[i]? = σ[i]?) → σ'.length = σ.length → Q σ' H) → g v σ H Q
def GsOk (K : PySem.W.Frag) (ts : List Tg) (g : TGs) : Prop := ∀ σ H G ρ c vs ds ρ' (Q : L2.St → Hp → Prop), At K G H σ ρ c → DenL K G H vs ds → bindTs ts ds ρ = some ρ' →
  (∀ σ', At K G H σ' ρ' c → (∀ i, i ∉ slotsL ts → σ'[i]? = σ[i]?) → σ'.length = σ.length → Q σ' H) → g vs σ H Q
theorem assign_plain {e : Expr} {es : List Expr} {env : PySem.Env} {N : List Str} {raw : Scope} {t : Tg} (h : chkG N raw t e = true) : assignEach (e :: es) env = (false, assign e env) :: assignEach es env := by
  cases t with
  | nm i =>
    simp only [chkG] at h
    split at h
    · rfl
    · cases h
  | tp ts =>
    simp only [chkG] at h
    split at h
    · rfl
    · cases h
theorem assign_list {N : List Str} {raw : Scope} {env : PySem.Env} : ∀ {ts : List Tg} {es : List Expr}, chkGs N raw ts es = true → (assignEach es env).length = ts.length ∧ (assignEach es env).findIdx? (·.1) = none
  | [], es, h => by
    cases es with
    | nil => exact ⟨rfl, rfl⟩
    | cons => simp [chkGs] at h
  | t :: ts, es, h => by
    cases es with
    | nil => simp [chkGs] at h
    | cons e es =>
      simp only [chkGs, Bool.and_eq_true] at h
      obtain ⟨h1, h2⟩ := assign_list (env := env) h.2
      rw [assign_plain h.1]
      refine ⟨by simp [h1], ?_⟩
      rw [List.findIdx?_cons, h2]
      rfl
theorem bindTs_len : ∀ {ts : List Tg} {ds : List D} {ρ ρ' : PF.Env}, bindTs ts ds ρ = some ρ' → ds.length = ts.length
  | [], [], _, _, _ => rfl
  | [], _ :: _, _, _, h => by simp [bindTs] at h
  | _ :: _, [], _, _, h => by simp [bindTs] at h
  | t :: ts, d :: ds, ρ, ρ', h => by
    simp only [bindTs, Option.bind_eq_some_iff] at h
    obtain ⟨ρ1, h1, h2⟩ := h
    simp [bindTs_len h2]
section
variable {N : List Str} {raw : Scope}
variable (K : PySem.W.Frag)
mutual
def gOf : Tg → TG
  | .nm i => gName i
  | .tp ts => gTup K ts.length (gsOf ts)
def gsOf : List Tg → TGs
  | [] => gNil
  | t :: ts => gCons (gOf t) (gsOf ts)
end
variable {K}
mutual
theorem pg_of (hc : X.calm = true) (hN : X.N = N) (hnd : X.N.Nodup) (hL : ∀ x, locB raw x = true → Loc X.env.scope x ∧ (X.fn x = true ∨ X.env.scope.names.lookup x = some .local)) : ∀ (t : Tg) (e : Expr), chkG N raw t e = true → PG X e (gOf X.K t) ∧ GOk X.K t (gOf X.K t)
  | .nm i, e, h => by
    simp only [chkG] at h
    split at h
    · rename_i x pos
      rw [Bool.and_eq_true, decide_eq_true_eq] at h
      obtain ⟨h1, h2⟩ := hL x h.2
      refine ⟨pg_name hnd (by rw [hN]; exact h.1) h1 h2, fun σ H G ρ c v d ρ' Q a w b k => ?_⟩
      simp only [bindT, Option.some.injEq] at b
      subst b
      refine k _ (at_set a w) (fun j hj => ?_) (by simp)
      rw [List.getElem?_set_ne]
      intro z
      exact hj (by simp [Tg.slots, z])
    · cases h
  | .tp ts, e, h => by
    simp only [chkG] at h
    split at h
    · rename_i es k pos
      obtain ⟨g1, g2⟩ := pgs_of hc hN hnd hL ts es h
      obtain ⟨h1, h2⟩ := assign_list (env := X.env) h
      refine ⟨pg_tup hc g1 h1 h2, fun σ H G ρ c v d ρ' Q a w b k => ?_⟩
      obtain ⟨ds, p, vs, rfl, rfl, hs, hd⟩ := w
      simp only [bindT] at b
      refine ⟨p, vs, rfl, hs, by rw [hd.length, bindTs_len b], g2 σ H G ρ c vs ds ρ' Q a hd b fun σ' a' o' l2 => k σ' a' (fun i hi => o' i (by simpa [Tg.slots] using hi)) l2⟩
    · cases h
theorem pgs_of (hc : X.calm = true) (hN : X.N = N) (hnd : X.N.Nodup) (hL : ∀ x, locB raw x = true → Loc X.env.scope x ∧ (X.fn x = true ∨ X.env.scope.names.lookup x = some .local)) : ∀ (ts : List Tg) (es : List Expr), chkGs N raw ts es = true → PGs X es (gsOf X.K ts) ∧ GsOk X.K ts (gsOf X.K ts)
  | [], es, h => by
    cases es with
    | cons => simp [chkGs] at h
    | nil =>
      refine ⟨pgs_nil, fun σ H G ρ c vs ds ρ' Q a hd b k => ?_⟩
      cases ds with
      | cons => simp [bindTs] at b
      | nil =>
        simp only [bindTs, Option.some.injEq] at b
        subst b
        cases vs with
        | cons => exact hd.elim
        | nil => exact ⟨rfl, k σ a (fun _ _ => rfl) rfl⟩
  | t :: ts, es, h => by
    cases es with
    | nil => simp [chkGs] at h
    | cons e es =>
      simp only [chkGs, Bool.and_eq_true] at h
      obtain ⟨g1, g2⟩ := pg_of hc hN hnd hL t e h.1
      obtain ⟨gs1, gs2⟩ := pgs_of hc hN hnd hL ts es h.2
      refine ⟨pgs_cons g1 gs1 (by rw [assign_plain h.1]; rfl), fun σ H G ρ c vs ds ρ' Q a hd b k => ?_⟩
      cases ds with
      | nil => simp [bindTs] at b
      | cons d ds =>
        cases vs with
        | nil => exact hd.elim
        | cons v vs =>
          simp only [bindTs, Option.bind_eq_some_iff] at b
          obtain ⟨ρ1, b1, b2⟩ := b
          refine ⟨v, vs, rfl, g2 σ H G ρ c v d ρ1 _ a (Den.w (d' := d) hd.1 b1) b1 fun σ1 a1 o1 m1 => ?_⟩
          refine gs2 σ1 H G ρ1 c vs ds ρ' Q a1 hd.2 b2 fun σ2 a2 o2 m2 => k σ2 a2 (fun i hi => ?_) (m2.trans m1)
          simp only [slotsL, List.mem_append, not_or] at hi
          rw [o2 i hi.2, o1 i hi.1]
end
end

/-! ### what is walked -/
/-- the walk gives what ds says, while nothing of it changes -/
structure Wk (K : PySem.W.Frag) (t : Tg) (J : It) (G : Gh) (H : Hp) (ds : List D) : Prop where
  go : ∀ i G' H', Stb G H G' H' → i < ds.length → J.go i H'
  stop : ∀ i G' H', Stb G H G' H' → ds.length ≤ i → J.stop i H'
  yld : ∀ i G' H' x H'' c, Stb G H G' H' → Trk G' H' → CupR G' H' c → i < ds.length → J.yld i H' x H'' → Ext G' H' G' H'' ∧ Trk G' H'' ∧ CupR G' H'' c ∧ ∃ d, ds[i]? = some d ∧ ((∀ ρ ρ', bindT t d ρ = some ρ' → WDen K G' H'' t x d))
def SI (X : Cx) (W : WX) (t : Tg) (tg e : Expr) (m : PF.Env → M (List D)) : Prop := ∃ wi, PI X tg e wi ∧ ∀ σ H G ρ c (R : It → Hp → Prop), At X.K G H σ ρ c → Post X W σ (fun G H J ds => Wk X.K t J G H ds) G H (m ρ c) R → wi σ H R
theorem wk_list {K : PySem.W.Frag} {t : Tg} {G : Gh} {H : Hp} {a : Addr} {vs : List V} {ds : List D} (n : ¬ G.F a) (h : H a = some (.lst vs)) (hd : DenL K G H vs ds) : Wk K t (Itl K a) G H ds where
  go := fun i G' H' s hi => ⟨vs, vs[i]'(by rw [hd.length]; exact hi), .of (s.keep a _ h True.intro n), List.getElem?_eq_getElem _⟩
  stop := fun i G' H' s hi => ⟨vs, .of (s.keep a _ h True.intro n), by rw [hd.length]; exact hi⟩
  yld := fun i G' H' x H'' c s tr q hi y => by
    obtain ⟨rfl, y⟩ := y
    refine ⟨Ext.refl _ _, tr, q, ds[i], List.getElem?_eq_getElem hi, fun ρ ρ' b => ?_⟩
    obtain ⟨v, e1, e2⟩ := (hd.stay s).get (List.getElem?_eq_getElem hi)
    have := y vs (.of (s.keep a _ h True.intro n))
    rw [e1] at this; cases this
    exact Den.w (d' := ds[i]) e2 b
theorem wk_tup {K : PySem.W.Frag} {t : Tg} {G : Gh} {H : Hp} {a : Addr} {o : Obj} {vs : List V} {ds : List D} (n : ¬ G.F a) (h : H a = some (.frz o (.tup vs))) (hd : DenL K G H vs ds) : Wk K t (Itt K a) G H ds where
  go := fun i G' H' s hi => ⟨vs, vs[i]'(by rw [hd.length]; exact hi), sqT (s.keep a _ h True.intro n), List.getElem?_eq_getElem _⟩
  stop := fun i G' H' s hi => ⟨vs, sqT (s.keep a _ h True.intro n), by rw [hd.length]; exact hi⟩
  yld := fun i G' H' x H'' c s tr q hi y => by
    obtain ⟨rfl, y⟩ := y
    refine ⟨Ext.refl _ _, tr, q, ds[i], List.getElem?_eq_getElem hi, fun ρ ρ' b => ?_⟩
    obtain ⟨v, e1, e2⟩ := (hd.stay s).get (List.getElem?_eq_getElem hi)
    have := y vs (sqT (s.keep a _ h True.intro n))
    rw [e1] at this; cases this
    exact Den.w (d' := ds[i]) e2 b
theorem si_val {t : Tg} {tg e : Expr} {m : PF.Env → M D} (he : SE X W e m) : SI X W t tg e fun ρ => M.bind (m ρ) fun x => M.lift (itemsOf x) := by
  obtain ⟨ta, a1, a2⟩ := he
  refine ⟨fun σ H R => iList X.K ta σ H R ∨ iTup X.K ta σ H R, ⟨fun pins s σ H R I h => ?_⟩, fun σ H G ρ c R at0 p => ?_⟩
  · rcases h with h | h
    · exact (pi_list a1).run pins s σ H R I h
    · exact (pi_tup a1).run pins s σ H R I h
  have post := fun (Q1 : VK) h => a2 σ H G ρ c Q1 at0 (p.bindE (R := DenR X.K) h)
  cases e : m ρ c with
  | exc k c1 => exact .inl (post _ fun d c2 e2 => by rw [e] at e2; cases e2)
  | stuck => exact .inl (post _ fun d c2 e2 => by rw [e] at e2; cases e2)
  | ok d c1 =>
    cases d with
    | lst xs =>
      refine .inl (post _ fun d c2 e2 v H1 G1 x1 t1 q1 r1 p1 => ?_)
      rw [e] at e2; cases e2
      obtain ⟨a, vs, rfl, na, h1, h2⟩ := r1
      exact ⟨a, rfl, ⟨vs, .of h1⟩, p1 _ H1 G1 (Ext.refl _ _) t1 q1 (wk_list na h1 h2)⟩
    | tup xs =>
      refine .inr (post _ fun d c2 e2 v H1 G1 x1 t1 q1 r1 p1 => ?_)
      rw [e] at e2; cases e2
      obtain ⟨a, vs, o, rfl, na, h1, hd, h2⟩ := r1
      exact ⟨a, rfl, ⟨vs, sqT h1⟩, p1 _ H1 G1 (Ext.refl _ _) t1 q1 (wk_tup na h1 h2)⟩
    | _ =>
      refine .inl (post _ fun d c2 e2 v H1 G1 x1 t1 q1 r1 p1 => ?_)
      rw [e] at e2; cases e2
      exact (p1 : False).elim
theorem rangeD_len (lo hi : Int) : (rangeD lo hi).length = (hi - lo).toNat := by simp [rangeD]
theorem wk_range {K : PySem.W.Frag} {t : Tg} {G : Gh} {H : Hp} {lo hi : Int} : Wk K t (L2.Itr lo (hi - lo).toNat) G H (rangeD lo hi) where
  go := fun i G' H' s h => by rw [rangeD_len] at h; exact h
  stop := fun i G' H' s h => by rw [rangeD_len] at h; exact h
  yld := fun i G' H' x H'' c s tr q h y => by
    obtain ⟨rfl, rfl⟩ := y
    have h' : i < (hi - lo).toNat := by rw [rangeD_len] at h; exact h
    refine ⟨Ext.refl _ _, tr, q, .int (lo + (i : Nat)), by simp [rangeD, h'], fun ρ ρ' b => Den.w (d' := .non) rfl b⟩
theorem si_rng1 {t : Tg} {tg a : Expr} {ma : PF.Env → M D} {p pos : Pos} (hg : Gl X "range") (hm : X.mg "range" = none) (na : nstar a = true) (ha : SE X W a ma) :
    SI X W t tg (.Call (.Name "range" p) [a] [] pos) fun ρ => M.bind (ma ρ) fun x => M.bind (M.lift (asInt x)) fun i => if rngOk 0 i then M.pure (rangeD 0 i) else M.stuck := by
  obtain ⟨ta, a1, a2⟩ := ha
  refine ⟨_, pi_range1 hg hm (pa_cons a1 pa_nil (star_cons na)) (star_cons na), fun σ H G ρ c R at0 p => ?_⟩
  refine a2 σ H G ρ c _ at0 (p.bind fun x c1 v H1 G1 e1 t1 q1 r1 p1 => ?_)
  obtain ⟨i, ei, p2⟩ := p1.lift
  cases x <;> simp [asInt] at ei
  subst ei
  cases show v = .int _ from r1
  split at p2
  · rename_i i hr
    have hr' := of_decide_eq_true hr
    have w := wk_range (K := X.K) (t := t) (G := G1) (H := H1) (lo := 0) (hi := i)
    rw [Int.sub_zero] at w
    exact ⟨i, rfl, by omega, by omega, p2 _ H1 G1 (Ext.refl _ _) t1 q1 w⟩
  · exact p2.elim
theorem si_rng2 {t : Tg} {tg a b : Expr} {ma mb : PF.Env → M D} {p pos : Pos} (hg : Gl X "range") (hm : X.mg "range" = none) (na : nstar a = true) (nb : nstar b = true) (ha : SE X W a ma) (hb : SE X W b mb) :
    SI X W t tg (.Call (.Name "range" p) [a, b] [] pos) fun ρ => M.bind (ma ρ) fun x => M.bind (mb ρ) fun y => M.bind (M.lift (asInt x)) fun i => M.bind (M.lift (asInt y)) fun j => if rngOk i j then M.pure (rangeD i j) else M.stuck := by
  obtain ⟨ta, a1, a2⟩ := ha
  obtain ⟨tb, b1, b2⟩ := hb
  refine ⟨_, pi_range2 hg hm (pa_cons a1 (pa_cons b1 pa_nil (star_cons nb)) (star_cons na)) (by rw [star_cons na, star_cons nb]; rfl) (star_cons nb), fun σ H G ρ c R at0 p => ?_⟩
  refine a2 σ H G ρ c _ at0 (p.bind fun x c1 v H1 G1 e1 t1 q1 r1 p1 => ?_)
  refine b2 σ H1 G1 ρ c1 _ (at0.stay e1 t1 q1) (p1.bind fun y c2 u H2 G2 e2 t2 q2 r2 p2 => ?_)
  obtain ⟨i, ei, p3⟩ := p2.lift
  obtain ⟨j, ej, p4⟩ := p3.lift
  cases x <;> simp [asInt] at ei
  cases y <;> simp [asInt] at ej
  subst ei ej
  cases show v = .int _ from r1
  cases show u = .int _ from r2
  split at p4
  · rename_i i j hr
    have hr' := of_decide_eq_true hr
    exact ⟨i, j, rfl, ⟨by omega, by omega, by omega, by omega⟩, p4 _ H2 G2 (Ext.refl _ _) t2 q2 wk_range⟩
  · exact p4.elim
theorem enum_get : ∀ (xs : List D) (n i : Nat), (enumD n xs)[i]? = (xs[i]?).map fun d => .tup [.int ((n + i : Nat) : Int), d]
  | [], n, i => by simp [enumD]
  | x :: xs, n, 0 => by simp [enumD]
  | x :: xs, n, i + 1 => by
    simp only [enumD, List.getElem?_cons_succ]
    rw [enum_get xs (n + 1) i, show n + 1 + i = n + (i + 1) by omega]
theorem enum_len : ∀ (xs : List D) (n : Nat), (enumD n xs).length = xs.length
  | [], _ => rfl
  | x :: xs, n => by simp [enumD, enum_len xs (n + 1)]
theorem zip_get : ∀ (xs ys : List D) (i : Nat) (x y : D), xs[i]? = some x → ys[i]? = some y → (zipD xs ys)[i]? = some (.tup [x, y])
  | [], _, _, _, _, h, _ => by simp at h
  | _ :: _, [], _, _, _, _, h => by simp at h
  | x :: xs, y :: ys, 0, a, b, h, h' => by simp at h h'; subst h h'; rfl
  | x :: xs, y :: ys, i + 1, a, b, h, h' => by
    simp only [zipD, List.getElem?_cons_succ]
    exact zip_get xs ys i a b (by simpa using h) (by simpa using h')
theorem zip_len : ∀ (xs ys : List D), (zipD xs ys).length = min xs.length ys.length
  | [], _ => by simp [zipD]
  | _ :: _, [] => by simp [zipD]
  | x :: xs, y :: ys => by simp [zipD, zip_len xs ys]
theorem wk_enum {K : PySem.W.Frag} {ts : List Tg} {G : Gh} {H : Hp} {a : Addr} {vs : List V} {ds : List D} (n : ¬ G.F a) (h : H a = some (.lst vs)) (hd : DenL K G H vs ds) : Wk K (.tp ts) (Ite K a) G H (enumD 0 ds) where
  go := fun i G' H' s hi => ⟨vs, vs[i]'(by rw [hd.length, ← enum_len ds 0]; exact hi), .of (s.keep a _ h True.intro n), List.getElem?_eq_getElem _⟩
  stop := fun i G' H' s hi => ⟨vs, .of (s.keep a _ h True.intro n), by rw [hd.length, ← enum_len ds 0]; exact hi⟩
  yld := fun i G' H' x H'' c s tr q hi y => by
    obtain ⟨T, x', rfl, hT, rfl, y⟩ := y
    have hi' : i < ds.length := by rw [← enum_len ds 0]; exact hi
    refine ⟨Ext.made hT, tr.made hT, q.made hT, .tup [.int (i : Nat), ds[i]], by rw [enum_get, List.getElem?_eq_getElem hi', Nat.zero_add]; rfl, fun ρ ρ' b => ⟨_, T, _, rfl, rfl, .of upd_same, ?_⟩⟩
    obtain ⟨v, e1, e2⟩ := (hd.stay s).get (List.getElem?_eq_getElem hi')
    have := y vs (.of (s.keep a _ h True.intro n))
    rw [e1] at this; cases this
    exact ⟨rfl, Den.stay (Ext.made hT).stb _ _ e2, True.intro⟩
theorem wk_enumT {K : PySem.W.Frag} {ts : List Tg} {G : Gh} {H : Hp} {a : Addr} {o : Obj} {vs : List V} {ds : List D} (n : ¬ G.F a) (h : H a = some (.frz o (.tup vs))) (hd : DenL K G H vs ds) : Wk K (.tp ts) (IteT K a) G H (enumD 0 ds) where
  go := fun i G' H' s hi => ⟨vs, vs[i]'(by rw [hd.length, ← enum_len ds 0]; exact hi), sqT (s.keep a _ h True.intro n), List.getElem?_eq_getElem _⟩
  stop := fun i G' H' s hi => ⟨vs, sqT (s.keep a _ h True.intro n), by rw [hd.length, ← enum_len ds 0]; exact hi⟩
  yld := fun i G' H' x H'' c s tr q hi y => by
    obtain ⟨T, x', ⟨rfl, hT⟩, rfl, y⟩ := y
    have hi' : i < ds.length := by rw [← enum_len ds 0]; exact hi
    refine ⟨Ext.made hT, tr.made hT, q.made hT, .tup [.int (i : Nat), ds[i]], by rw [enum_get, List.getElem?_eq_getElem hi', Nat.zero_add]; rfl, fun ρ ρ' b => ⟨_, T, _, rfl, rfl, .of upd_same, ?_⟩⟩
    obtain ⟨v, e1, e2⟩ := (hd.stay s).get (List.getElem?_eq_getElem hi')
    have := y vs (sqT (s.keep a _ h True.intro n))
    rw [e1] at this; cases this
    exact ⟨rfl, Den.stay (Ext.made hT).stb _ _ e2, True.intro⟩
theorem si_enum {ts : List Tg} {es : List Expr} {k : Nat} {tp : Pos} {a : Expr} {ma : PF.Env → M D} {p pos : Pos} (hg : Gl X "enumerate") (hm : X.mg "enumerate" = none) (na : nstar a = true) (ha : SE X W a ma) :
    SI X W (.tp ts) (.Tuple es k tp) (.Call (.Name "enumerate" p) [a] [] pos) fun ρ => M.bind (ma ρ) fun x => match x with
      | .lst xs => M.pure (enumD 0 xs)
      | .tup xs => M.pure (enumD 0 xs)
      | _ => M.stuck := by
  obtain ⟨ta, a1, a2⟩ := ha
  have pa := pa_cons a1 pa_nil (star_cons na)
  refine ⟨fun σ H R => iEnum X.K (tCons ta tNil) σ H R ∨ iEnT X.K (tCons ta tNil) σ H R, ⟨fun pins s σ H R I h => ?_⟩, fun σ H G ρ c R at0 p => ?_⟩
  · rcases h with h | h
    · exact (pi_enum hg hm pa (star_cons na)).run pins s σ H R I h
    · exact (pi_enT hg hm pa (star_cons na)).run pins s σ H R I h
  have post := fun (Q1 : VK) h => a2 σ H G ρ c Q1 at0 (p.bindE (R := DenR X.K) h)
  cases e : ma ρ c with
  | exc k c1 => exact .inl (post _ fun d c2 e2 => by rw [e] at e2; cases e2)
  | stuck => exact .inl (post _ fun d c2 e2 => by rw [e] at e2; cases e2)
  | ok d c1 =>
    cases d with
    | lst xs =>
      refine .inl (post _ fun d c2 e2 v H1 G1 x1 t1 q1 r1 p1 => ?_)
      rw [e] at e2; cases e2
      obtain ⟨a, vs, rfl, na, h1, h2⟩ := r1
      exact ⟨a, vs, rfl, .of h1, p1 _ H1 G1 (Ext.refl _ _) t1 q1 (wk_enum na h1 h2)⟩
    | tup xs =>
      refine .inr (post _ fun d c2 e2 v H1 G1 x1 t1 q1 r1 p1 => ?_)
      rw [e] at e2; cases e2
      obtain ⟨a, vs, o, rfl, na, h1, hd, h2⟩ := r1
      exact ⟨a, vs, ⟨rfl, sqT h1⟩, p1 _ H1 G1 (Ext.refl _ _) t1 q1 (wk_enumT na h1 h2)⟩
    | _ =>
      refine .inl (post _ fun d c2 e2 v H1 G1 x1 t1 q1 r1 p1 => ?_)
      rw [e] at e2; cases e2
      exact (p1 : False).elim
theorem wk_zipX {K : PySem.W.Frag} {ts : List Tg} {G : Gh} {H : Hp} {a b : Addr} {vs us : List V} {xs ys : List D} {k1 k2 : Bool} (h : ∀ G' H', Stb G H G' H' → SqX k1 K H' a vs) (hd : DenL K G H vs xs) (h' : ∀ G' H', Stb G H G' H' → SqX k2 K H' b us) (hd' : DenL K G H us ys) : Wk K (.tp ts) (ItzX k1 k2 K a b) G H (zipD xs ys) where
  go := fun i G' H' s hi => by
    rw [zip_len] at hi
    exact ⟨vs, us, vs[i]'(by rw [hd.length]; omega), us[i]'(by rw [hd'.length]; omega), h _ _ s, h' _ _ s, List.getElem?_eq_getElem _, List.getElem?_eq_getElem _⟩
  stop := fun i G' H' s hi => by
    rw [zip_len] at hi
    exact ⟨vs, us, h _ _ s, h' _ _ s, by rw [hd.length, hd'.length]; omega⟩
  yld := fun i G' H' x H'' c s tr q hi y => by
    obtain ⟨T, x1, y1, rfl, hT, rfl, f1, f2⟩ := y
    rw [zip_len] at hi
    have i1 : i < xs.length := by omega
    have i2 : i < ys.length := by omega
    refine ⟨Ext.made hT, tr.made hT, q.made hT, .tup [xs[i], ys[i]], zip_get _ _ _ _ _ (List.getElem?_eq_getElem i1) (List.getElem?_eq_getElem i2), fun ρ ρ' bb => ⟨_, T, _, rfl, rfl, .of upd_same, ?_⟩⟩
    obtain ⟨v, e1, e2⟩ := (hd.stay s).get (List.getElem?_eq_getElem i1)
    obtain ⟨u, g1, g2⟩ := (hd'.stay s).get (List.getElem?_eq_getElem i2)
    have z1 := f1 vs (h _ _ s)
    have z2 := f2 us (h' _ _ s)
    rw [e1] at z1; cases z1
    rw [g1] at z2; cases z2
    exact ⟨Den.stay (Ext.made hT).stb _ _ e2, Den.stay (Ext.made hT).stb _ _ g2, True.intro⟩
theorem si_zip {ts : List Tg} {es : List Expr} {k : Nat} {tp : Pos} {a b : Expr} {ma mb : PF.Env → M D} {p pos : Pos} (hg : Gl X "zip") (hm : X.mg "zip" = none) (na : nstar a = true) (nb : nstar b = true) (ha : SE X W a ma) (hb : SE X W b mb) :
    SI X W (.tp ts) (.Tuple es k tp) (.Call (.Name "zip" p) [a, b] [] pos) fun ρ => M.bind (ma ρ) fun x => M.bind (mb ρ) fun y => match x, y with
      | .lst xs, .lst ys => M.pure (zipD xs ys)
      | .tup xs, .tup ys => M.pure (zipD xs ys)
      | .lst xs, .tup ys => M.pure (zipD xs ys)
      | .tup xs, .lst ys => M.pure (zipD xs ys)
      | _, _ => M.stuck := by
  obtain ⟨ta, a1, a2⟩ := ha
  obtain ⟨tb, b1, b2⟩ := hb
  refine ⟨_, pi_zipX hg hm (pa_cons a1 (pa_cons b1 pa_nil (star_cons nb)) (star_cons na)) (star_cons na) (by rw [star_cons nb]; rfl), fun σ H G ρ c R at0 p => ?_⟩
  refine a2 σ H G ρ c _ at0 (p.bind fun x c1 v H1 G1 e1 t1 q1 r1 p1 => ?_)
  refine b2 σ H1 G1 ρ c1 _ (at0.stay e1 t1 q1) (p1.bind fun y c2 u H2 G2 e2 t2 q2 r2 p2 => ?_)
  have r1' := Den.stay e2.stb _ _ r1
  cases x with
  | lst xs =>
    obtain ⟨a, vs, rfl, n1, h1, d1⟩ := r1'
    have f1 : ∀ G' H', Stb G2 H2 G' H' → SqX false X.K H' a vs := fun G' H' s => .of (s.keep a _ h1 True.intro n1)
    cases y with
    | lst ys =>
      obtain ⟨b, us, rfl, n2, h2, d2⟩ := r2
      have f2 : ∀ G' H', Stb G2 H2 G' H' → SqX false X.K H' b us := fun G' H' s => .of (s.keep b _ h2 True.intro n2)
      exact ⟨a, b, vs, us, false, false, rfl, f1 _ _ (Ext.refl _ _).stb, f2 _ _ (Ext.refl _ _).stb, p2 _ H2 G2 (Ext.refl _ _) t2 q2 (wk_zipX f1 d1 f2 d2)⟩
    | tup ys =>
      obtain ⟨b, us, o', rfl, n2, h2, k2, d2⟩ := r2
      have f2 : ∀ G' H', Stb G2 H2 G' H' → SqX true X.K H' b us := fun G' H' s => sqT (s.keep b _ h2 True.intro n2)
      exact ⟨a, b, vs, us, false, true, rfl, f1 _ _ (Ext.refl _ _).stb, f2 _ _ (Ext.refl _ _).stb, p2 _ H2 G2 (Ext.refl _ _) t2 q2 (wk_zipX f1 d1 f2 d2)⟩
    | _ => exact (p2 : False).elim
  | tup xs =>
    obtain ⟨a, vs, o, rfl, n1, h1, k1, d1⟩ := r1'
    have f1 : ∀ G' H', Stb G2 H2 G' H' → SqX true X.K H' a vs := fun G' H' s => sqT (s.keep a _ h1 True.intro n1)
    cases y with
    | lst ys =>
      obtain ⟨b, us, rfl, n2, h2, d2⟩ := r2
      have f2 : ∀ G' H', Stb G2 H2 G' H' → SqX false X.K H' b us := fun G' H' s => .of (s.keep b _ h2 True.intro n2)
      exact ⟨a, b, vs, us, true, false, rfl, f1 _ _ (Ext.refl _ _).stb, f2 _ _ (Ext.refl _ _).stb, p2 _ H2 G2 (Ext.refl _ _) t2 q2 (wk_zipX f1 d1 f2 d2)⟩
    | tup ys =>
      obtain ⟨b, us, o', rfl, n2, h2, k2, d2⟩ := r2
      have f2 : ∀ G' H', Stb G2 H2 G' H' → SqX true X.K H' b us := fun G' H' s => sqT (s.keep b _ h2 True.intro n2)
      exact ⟨a, b, vs, us, true, true, rfl, f1 _ _ (Ext.refl _ _).stb, f2 _ _ (Ext.refl _ _).stb, p2 _ H2 G2 (Ext.refl _ _) t2 q2 (wk_zipX f1 d1 f2 d2)⟩
    | _ => exact (p2 : False).elim
  | _ => exact (p2 : False).elim
end
end PF
end

/-! ## PfS11 -/
section
/-! PfS11: comprehensions; all expressions. -/
set_option linter.all false
set_option autoImplicit false
namespace PF
open PySem L2
/-! ### slots forgotten -/
theorem wipeE_len (ρ : PF.Env) : ∀ vs : List Nat, (wipeE ρ vs).length = ρ.length
  | [] => rfl
  | v :: vs => by unfold wipeE; rw [List.length_set, wipeE_len ρ vs]
theorem wipeE_some {ρ : PF.Env} {i : Nat} {x : Sl} : ∀ {vs : List Nat}, (wipeE ρ vs)[i]? = some (some x) → ρ[i]? = some (some x) ∧ i ∉ vs
  | [], h => ⟨h, by simp⟩
  | v :: vs, h => by
    unfold wipeE at h
    by_cases hi : v = i
    · subst hi
      by_cases hv : v < (wipeE ρ vs).length
      · rw [List.getElem?_set_self hv] at h; cases h
      · rw [List.getElem?_eq_none (by simpa using hv)] at h; cases h
    · rw [List.getElem?_set_ne hi] at h
      obtain ⟨h1, h2⟩ := wipeE_some h
      exact ⟨h1, by simp only [List.mem_cons, not_or]; exact ⟨fun e => hi e.symm, h2⟩⟩
theorem wipe_off {σ : L2.St} {i : Nat} : ∀ {vs : List Nat}, i ∉ vs → (wipe σ vs)[i]? = σ[i]?
  | [], _ => rfl
  | v :: vs, h => by
    simp only [List.mem_cons, not_or] at h
    unfold wipe
    rw [List.getElem?_set_ne (fun e => h.1 e.symm)]
    exact wipe_off h.2
theorem wipe_in {σ : L2.St} {i : Nat} : ∀ {vs : List Nat}, i ∈ vs → i < σ.length → (wipe σ vs)[i]? = some none
  | [], h, _ => by simp at h
  | v :: vs, h, hl => by
    unfold wipe
    by_cases e : v = i
    · subst e
      exact List.getElem?_set_self (by rw [wipe_length]; exact hl)
    · rw [List.getElem?_set_ne e]
      rcases List.mem_cons.mp h with z | z
      · exact absurd z.symm e
      · exact wipe_in z hl
theorem wipe_agree {σ σ' : L2.St} {vs : List Nat} (hl : σ'.length = σ.length) (h : ∀ i, i ∉ vs → σ'[i]? = σ[i]?) : wipe σ' vs = wipe σ vs := by
  apply List.ext_getElem?
  intro i
  by_cases hi : i ∈ vs
  · by_cases hl2 : i < σ.length
    · rw [wipe_in hi hl2, wipe_in hi (by omega)]
    · rw [List.getElem?_eq_none (by rw [wipe_length]; omega), List.getElem?_eq_none (by rw [wipe_length]; omega)]
  · rw [wipe_off hi, wipe_off hi, h i hi]
theorem wipe_wipe (σ : L2.St) (vs : List Nat) : wipe (wipe σ vs) vs = wipe σ vs := wipe_agree (wipe_length σ vs) fun i hi => wipe_off hi
theorem At.wiped {K : PySem.W.Frag} {G : Gh} {H : Hp} {σ : L2.St} {ρ : PF.Env} {c : Cup} (a : At K G H σ ρ c) (vs : List Nat) : At K G H (wipe σ vs) (wipeE ρ vs) c where
  sh := fun i d h => by
    obtain ⟨h1, h2⟩ := wipeE_some h
    obtain ⟨v, e1, e2⟩ := a.sh i d h1
    exact ⟨v, by rw [wipe_off h2]; exact e1, e2⟩
  ow := fun i d h => by
    obtain ⟨h1, h2⟩ := wipeE_some h
    obtain ⟨v, e1, e2⟩ := a.ow i d h1
    exact ⟨v, by rw [wipe_off h2]; exact e1, e2⟩
  trk := a.trk
  cup := a.cup
  len := by rw [wipeE_len, wipe_length]; exact a.len
  tq := a.tq
theorem own_slots (N : List Str) (is : List Nat) : (ownOf N is).map (·.2) = is := by
  unfold ownOf
  rw [List.map_map]
  exact List.map_id is

section
variable {X : Cx} {W : WX} {sc scope : Scope}
abbrev W0 : WX := fun _ _ _ _ => False
theorem takes_blk {s : Shared} {H : Hp} {cenv : PySem.Env} {fp : List Addr} : Takes (X.blk s H scope cenv fp) W0 := LamX.takes0
/-- a part within a comprehension's block -/
def bE (X : Cx) (scope : Scope) (e : Expr) : TE := fun σ H Q => ∀ (s0 : Shared) (H0 : Hp) (C : Addr) (cl : List (Str × Addr)) (fp : List Addr) (pins : List (Addr × Obj)) (s : Shared),
  L2.Inv (X.blk s0 H0 scope (compEnvC scope cl C X.env) fp) pins σ H s → wpAny (model X.prog X.w) X.A (eval e (compEnvC scope cl C X.env)) (EP (X.blk s0 H0 scope (compEnvC scope cl C X.env) fp) pins σ Q) (fun _ _ => False) s
def bT (X : Cx) (scope : Scope) (e : Expr) : TT := fun σ H Q => ∀ (s0 : Shared) (H0 : Hp) (C : Addr) (cl : List (Str × Addr)) (fp : List Addr) (pins : List (Addr × Obj)) (s : Shared),
  L2.Inv (X.blk s0 H0 scope (compEnvC scope cl C X.env) fp) pins σ H s → wpAny (model X.prog X.w) X.A (isTrue e (compEnvC scope cl C X.env) (eval e (compEnvC scope cl C X.env))) (TP (X.blk s0 H0 scope (compEnvC scope cl C X.env) fp) pins σ Q) (fun _ _ => False) s
theorem pe_bE {e : Expr} (s0 : Shared) (H0 : Hp) (C : Addr) (cl : List (Str × Addr)) (fp : List Addr) : PE (X.blk s0 H0 scope (compEnvC scope cl C X.env) fp) e (bE X scope e) := ⟨fun pins s σ H Q I h => h s0 H0 C cl fp pins s I⟩
theorem pt_bT {e : Expr} (s0 : Shared) (H0 : Hp) (C : Addr) (cl : List (Str × Addr)) (fp : List Addr) : PT (X.blk s0 H0 scope (compEnvC scope cl C X.env) fp) e (bT X scope e) := ⟨fun pins s σ H Q I h => h s0 H0 C cl fp pins s I⟩
theorem bE_of {e : Expr} {m : PF.Env → M D} (h : ∀ (s0 : Shared) (H0 : Hp) (C : Addr) (cl : List (Str × Addr)) (fp : List Addr), SE (X.blk s0 H0 scope (compEnvC scope cl C X.env) fp) W0 e m)
    {σ : L2.St} {H : Hp} {G : Gh} {ρ : PF.Env} {c c' : Cup} {d : D} {Q : VK} (a : At X.K G H σ ρ c) (em : m ρ c = .ok d c') (k : ∀ v H' G', Ext G H G' H' → Trk G' H' → CupR G' H' c' → Den X.K G' H' v d → Q v H') : bE X scope e σ H Q := by
  intro s0 H0 C cl fp pins s I
  obtain ⟨t, t1, t2⟩ := h s0 H0 C cl fp
  refine t1.run pins s σ H Q I (t2 σ H G ρ c Q a ?_)
  rw [em]
  exact k
theorem bT_of {e : Expr} {m : PF.Env → M Bool} (h : ∀ (s0 : Shared) (H0 : Hp) (C : Addr) (cl : List (Str × Addr)) (fp : List Addr), ST (X.blk s0 H0 scope (compEnvC scope cl C X.env) fp) W0 e m)
    {σ : L2.St} {H : Hp} {G : Gh} {ρ : PF.Env} {c c' : Cup} {d : Bool} {Q : Bool → Hp → Prop} (a : At X.K G H σ ρ c) (em : m ρ c = .ok d c') (k : ∀ H' G', Ext G H G' H' → Trk G' H' → CupR G' H' c' → Q d H') : bT X scope e σ H Q := by
  intro s0 H0 C cl fp pins s I
  obtain ⟨t, t1, t2⟩ := h s0 H0 C cl fp
  refine t1.run pins s σ H Q I (t2 σ H G ρ c Q a ?_)
  rw [em]
  exact fun v H' G' e1 e2 e3 e4 => by subst e4; exact k H' G' e1 e2 e3
def lcF (t : Tg) (ρ : PF.Env) (mC : PF.Env → M Bool) (mE : PF.Env → M D) (x : D) : M (Option D) :=
  M.bind (M.lift (bindT t x (wipeE ρ t.slots))) fun ρ' => M.bind (M.nox (mC ρ')) fun b => if b then M.bind (M.nox (mE ρ')) fun d => M.pure (some d) else M.pure none
/-- what the walk of a comprehension asks, from the evaluator -/
theorem lc_read {t : Tg} {g : TG} {tt : TT} {te : TE} {wi : TI} {mI : PF.Env → M (List D)} {mC : PF.Env → M Bool} {mE : PF.Env → M D}
    (hi : ∀ σ H G ρ c (R : L2.It → Hp → Prop), At X.K G H σ ρ c → Post X W σ (fun G H J ds => Wk X.K t J G H ds) G H (mI ρ c) R → wi σ H R) (hg : GOk X.K t g)
    (hT : ∀ σ H G ρ c c' b (Q : Bool → Hp → Prop), At X.K G H σ ρ c → mC ρ c = .ok b c' → (∀ H' G', Ext G H G' H' → Trk G' H' → CupR G' H' c' → Q b H') → tt σ H Q)
    (hE : ∀ σ H G ρ c c' d (Q : VK), At X.K G H σ ρ c → mE ρ c = .ok d c' → (∀ v H' G', Ext G H G' H' → Trk G' H' → CupR G' H' c' → Den X.K G' H' v d → Q v H') → te σ H Q)
    {σ : L2.St} {H : Hp} {G : Gh} {ρ : PF.Env} {c : Cup} {Q : VK} (at0 : At X.K G H σ ρ c)
    (p : Post X W σ (DenR X.K) G H (M.bind (mI ρ) (fun xs => M.bind (mapGo (lcF t ρ mC mE) xs []) fun ds => M.pure (.lst ds)) c) Q) : tLc wi g tt te t.slots σ H Q := by
  refine hi σ H G ρ c _ at0 (p.bind fun ds0 c1 J H1 G1 e1 t1 q1 wk p1 => ?_)
  intro Da hD
  have at1 := at0.stay e1 t1 q1
  generalize hR : mapGo (lcF t ρ mC mE) ds0 [] c1 = R at p1
  have hRs : R ≠ .stuck := fun z => by
    unfold M.bind at p1
    rw [hR, z] at p1
    exact p1
  let St : Nat → Hp → Prop := fun i H' => ∃ Gx cx acc vs, Ext G1 H1 Gx H' ∧ Trk Gx H' ∧ CupR Gx H' cx ∧ Gx.B Da ∧ H' Da = some (.lst vs) ∧ DenL X.K Gx H' vs acc ∧ mapGo (lcF t ρ mC mE) (ds0.drop i) acc cx = R
  refine ⟨fun i m H' => m = ds0.length - i ∧ i ≤ ds0.length ∧ St i H', ⟨_, rfl, Nat.zero_le _, ⟨G1.g, fun a => G1.B a ∨ a = Da, G1.T⟩, c1, [], [], ⟨fun a o h _ n => ?_, fun a h => h, fun a h => .inl h, fun a h => .inl h, fun a h => ?_, fun a n z => ?_, rfl⟩, ⟨fun a h z => ?_, fun a h z => ?_, t1.tb.made hD True.intro⟩, q1.made hD, .inr rfl, upd_same, True.intro, hR⟩, ?_⟩
  · rw [upd_ne (ne_of_none h hD)]; exact h
  · rcases h with h | h
    · exact .inl h
    · exact .inr (by rw [h]; exact nh_none hD)
  · exact live_upd (by exact True.intro) a n z
  · rcases h with h | h
    · exact live_upd (by exact True.intro) a (t1.there a h) z
    · rw [h] at z; exact nh_no upd_same (by exact True.intro) z
  · rcases h with h | h
    · exact t1.apart a h z
    · subst h; exact q1.there z (nh_none hD)
  rintro i m H' ⟨rfl, hile, Gx, cx, acc, vs, ex, tx, qx, bD, hDv, hvs, hrun⟩
  have nD : Gx.g ≠ some Da := tx.apart Da bD
  by_cases hil : i < ds0.length
  · refine .inr ⟨wk.go i Gx H' ex.stb hil, St (i + 1), fun H'' s => ⟨ds0.length - (i + 1), by omega, rfl, hil, s⟩, fun x H2 y => ?_⟩
    obtain ⟨e2, t2, q2, d, hd, hw⟩ := wk.yld i Gx H' x H2 cx ex.stb tx qx hil y
    have hdrop : ds0.drop i = d :: ds0.drop (i + 1) := by
      rw [List.drop_eq_getElem_cons hil]
      rw [List.getElem?_eq_getElem hil] at hd
      cases hd; rfl
    rw [hdrop] at hrun
    simp only [mapGo] at hrun
    -- the target
    cases hb : bindT t d (wipeE ρ t.slots) with
    | none => exact absurd (by rw [← hrun]; unfold M.bind lcF; simp [hb, M.lift, M.bind, M.stuck]) hRs
    | some ρ' =>
      have ex2 := ex.trans e2
      have at2 : At X.K Gx H2 (wipe σ t.slots) (wipeE ρ t.slots) cx := (at1.stay ex2 t2 q2).wiped _
      refine hg _ H2 Gx _ cx x d ρ' _ at2 (hw _ _ hb) hb fun σ' at3 ho hl => ⟨?_, ?_⟩
      · rw [← wipe_wipe σ]
        exact wipe_agree hl ho
      have hf : lcF t ρ mC mE d = M.bind (M.nox (mC ρ')) fun b => if b then M.bind (M.nox (mE ρ')) fun d => M.pure (some d) else M.pure none := by
        unfold lcF; rw [hb]; rfl
      rw [hf] at hrun
      cases hc : mC ρ' cx with
      | stuck => exact absurd (by rw [← hrun]; unfold M.bind; simp [M.nox, hc]) hRs
      | exc k c3 => exact absurd (by rw [← hrun]; unfold M.bind; simp [M.nox, hc]) hRs
      | ok b c3 =>
        refine hT σ' H2 Gx ρ' cx c3 b _ at3 hc fun H3 G3 e3 t3 q3 => ?_
        have keep3 : H3 Da = some (.lst vs) := e3.keep Da _ (e2.keep Da _ hDv True.intro nD) True.intro nD
        have den3 : DenL X.K G3 H3 vs acc := hvs.stay (e2.trans e3).stb
        cases b with
        | false =>
          rw [if_neg Bool.false_ne_true]
          refine ⟨G3, c3, acc, vs, ex2.trans e3, t3, q3, e3.sub Da (e2.sub Da bD), keep3, den3, ?_⟩
          rw [← hrun]; unfold M.bind; simp [M.nox, hc, M.pure]
        | true =>
          rw [if_pos rfl]
          cases he : mE ρ' c3 with
          | stuck => exact absurd (by rw [← hrun]; unfold M.bind; simp [M.nox, hc, he, M.bind]) hRs
          | exc k c4 => exact absurd (by rw [← hrun]; unfold M.bind; simp [M.nox, hc, he, M.bind]) hRs
          | ok y c4 =>
            refine hE σ' H3 G3 ρ' c3 c4 y _ (at3.stay e3 t3 q3) he fun v H4 G4 e4 t4 q4 r4 => ?_
            have hrun2 : (if small acc.length = true then mapGo (lcF t ρ mC mE) (List.drop (i + 1) ds0) (acc ++ [y]) else M.stuck) c4 = R := by
              rw [← hrun]; unfold M.bind; simp [M.nox, hc, he, M.bind, M.pure]
            have n3 : G3.g ≠ some Da := t3.apart Da (e3.sub Da (e2.sub Da bD))
            have b4 : G4.B Da := e4.sub Da (e3.sub Da (e2.sub Da bD))
            have n4 : G4.g ≠ some Da := t4.apart Da b4
            have keep4 := e4.keep Da _ keep3 True.intro n3
            have den4 := den3.stay e4.stb
            have sm : small acc.length = true := by
              cases hs : small acc.length with
              | true => rfl
              | false =>
                rw [hs] at hrun2
                exact absurd hrun2.symm hRs
            rw [if_pos sm] at hrun2
            have s4 : Stb G4 H4 G4 (upd H4 Da (.lst (vs ++ [v]))) := ⟨fun a o h _ n => by
              rw [upd_ne (fun z => n (by rw [z]; exact .inl b4))]; exact h, fun a h => .inl h, fun a h => h, live_upd (by exact True.intro)⟩
            refine ⟨vs, keep4, Nat.lt_of_le_of_lt (by rw [den4.length]; exact of_decide_eq_true sm) (by decide), G4, c4, acc ++ [y], vs ++ [v], ⟨fun a o h k n => ?_, ((ex2.trans e3).trans e4).cup, ((ex2.trans e3).trans e4).new, ((ex2.trans e3).trans e4).sub, ((ex2.trans e3).trans e4).add, fun a n z => ?_, ((ex2.trans e3).trans e4).tt⟩, ⟨fun a h z => ?_, t4.apart, t4.tb.upd keep4 True.intro⟩, ?_, b4, upd_same, ?_, hrun2⟩
            · rw [upd_ne (ne_of_none h hD)]
              exact ((ex2.trans e3).trans e4).keep a o h k n
            · exact live_upd (by exact True.intro) a (((ex2.trans e3).trans e4).live a n) z
            · exact live_upd (by exact True.intro) a (t4.there a h) z
            · cases c4 with
              | none => exact q4
              | some pr =>
                obtain ⟨a, g1, g2⟩ := q4
                exact ⟨a, g1, by rw [upd_ne (fun z => n4 (by rw [← z]; exact g1))]; exact g2⟩
            · exact (den4.stay s4).app ⟨Den.stay s4 _ _ r4, True.intro⟩
  · have hie : i = ds0.length := by omega
    refine .inl ⟨wk.stop i Gx H' ex.stb (by omega), ?_⟩
    rw [hie, List.drop_length] at hrun
    have hrun : R = .ok acc cx := hrun.symm
    unfold M.bind at p1
    rw [hR, hrun] at p1
    refine p1 (.ref Da) H' ⟨Gx.g, fun a => Gx.B a ∧ a ≠ Da, Gx.T⟩ ⟨ex.keep, ex.cup, ex.new, fun a h => ⟨ex.sub a h, fun z => ?_⟩, fun a h => ex.add a h.1, ex.live, ex.tt⟩ ⟨fun a h => tx.there a h.1, fun a h => tx.apart a h.1, tx.tb⟩ qx ⟨Da, vs, rfl, fun z => ?_, hDv, hvs.stay (show Stb Gx H' ⟨Gx.g, fun a => Gx.B a ∧ a ≠ Da, Gx.T⟩ H' from ⟨fun a o h _ n => h, fun a h => ?_, fun a h => h, fun a h => h⟩)⟩
    · subst z; exact t1.there _ h (nh_none hD)
    · rcases z with z | z
      · exact z.2 rfl
      · exact nD z
    · rcases h with h | h
      · exact .inl (.inl h.1)
      · exact .inl (.inr h)
theorem lcF_plain {t : Tg} {ρ : PF.Env} {mE : PF.Env → M D} : (fun x => M.bind (M.lift (bindT t x (wipeE ρ t.slots))) fun ρ' => M.bind (M.nox (mE ρ')) fun d => M.pure (some d)) = lcF t ρ (fun _ => M.pure true) mE := by
  funext x
  unfold lcF
  rfl
/-- what the checks of a comprehension say -/
structure LcOk (X : Cx) (N : List Str) (scope : Scope) (t : Tg) (tg iter : Expr) : Prop where
  set : nset iter = true
  blk : BlkOk X.N X.env.scope scope (ownOf N t.slots)
  tg : chkG N scope t tg = true
theorem pg_blk {N : List Str} {t : Tg} {tg : Expr} (hc : X.calm = true) (hN : X.N = N) (hnd : X.N.Nodup) (hs : X.env.scope = sc) (h : chkG N scope t tg = true) (s0 : Shared) (H0 : Hp) (C : Addr) (cl : List (Str × Addr)) (fp : List Addr) :
    PG (X.blk s0 H0 scope (compEnvC scope cl C X.env) fp) tg (gOf X.K t) ∧ GOk X.K t (gOf X.K t) := by
  refine pg_of (X := X.blk s0 H0 scope (compEnvC scope cl C X.env) fp) (N := N) (raw := scope) hc hN hnd (fun x hx => ?_) t tg h
  have hsc : (X.blk s0 H0 scope (compEnvC scope cl C X.env) fp).env.scope = relS scope X.env.scope := rfl
  rw [hsc]
  unfold locB at hx
  split at hx
  · rename_i e
    have e' : (relS scope X.env.scope).names.lookup x = some .local := lookup_relS_keep (by decide) e
    exact ⟨.inl e', .inr e'⟩
  · rename_i e
    have e' : (relS scope X.env.scope).names.lookup x = some .cell := lookup_relS_keep (by decide) e
    refine ⟨.inr e', .inl ?_⟩
    show (scope.names.lookup x == some .cell) = true
    rw [e]; rfl
  · cases hx
theorem se_lc {N : List Str} {t : Tg} {tg iter elt : Expr} {pos : Pos} {mI : PF.Env → M (List D)} {mE : PF.Env → M D} (hc : X.calm = true) (hN : X.N = N) (hnd : X.N.Nodup) (hs : X.env.scope = sc) (L : LcOk X N scope t tg iter) (hI : SI X W t tg iter mI)
    (hE : ∀ (s0 : Shared) (H0 : Hp) (C : Addr) (cl : List (Str × Addr)) (fp : List Addr), SE (X.blk s0 H0 scope (compEnvC scope cl C X.env) fp) W0 elt mE) :
    ∃ wi, PI X tg iter wi ∧ PE X (.ListComp elt [⟨tg, iter, [], 0⟩] scope pos) (tLc wi (gOf X.K t) tYes (bE X scope elt) t.slots) ∧
      ∀ σ H G ρ c Q, At X.K G H σ ρ c → Post X W σ (DenR X.K) G H (M.bind (mI ρ) (fun xs => M.bind (mapGo (fun x => M.bind (M.lift (bindT t x (wipeE ρ t.slots))) fun ρ' => M.bind (M.nox (mE ρ')) fun d => M.pure (some d)) xs []) fun ds => M.pure (.lst ds)) c) Q → tLc wi (gOf X.K t) tYes (bE X scope elt) t.slots σ H Q := by
  obtain ⟨wi, i1, i2⟩ := hI
  have hp := pe_lc (elt := elt) (pos := pos) hc hnd i1 L.blk (fun s H C cl fp => (pg_blk hc hN hnd hs L.tg s H C cl fp).1) (fun _ _ _ _ _ => pts_nil) (fun s H C cl fp => pe_bE s H C cl fp) (fold_plain L.set)
  rw [own_slots] at hp
  refine ⟨wi, i1, hp, fun σ H G ρ c Q at0 p => ?_⟩
  rw [lcF_plain] at p
  refine lc_read i2 (pg_blk hc hN hnd hs L.tg X.s_0 H 0 [] []).2 (fun σ H G ρ c c' b Q a e k => ?_) (fun σ H G ρ c c' d Q a e k => bE_of hE a e k) at0 p
  cases e
  exact k H G (Ext.refl G H) a.trk a.cup
theorem se_lcif {N : List Str} {t : Tg} {tg iter elt cnd : Expr} {pos : Pos} {mI : PF.Env → M (List D)} {mC : PF.Env → M Bool} {mE : PF.Env → M D} (hc : X.calm = true) (hN : X.N = N) (hnd : X.N.Nodup) (hs : X.env.scope = sc) (L : LcOk X N scope t tg iter) (hI : SI X W t tg iter mI)
    (hC : ∀ (s0 : Shared) (H0 : Hp) (C : Addr) (cl : List (Str × Addr)) (fp : List Addr), ST (X.blk s0 H0 scope (compEnvC scope cl C X.env) fp) W0 cnd mC)
    (hE : ∀ (s0 : Shared) (H0 : Hp) (C : Addr) (cl : List (Str × Addr)) (fp : List Addr), SE (X.blk s0 H0 scope (compEnvC scope cl C X.env) fp) W0 elt mE) :
    ∃ wi, PI X tg iter wi ∧ PE X (.ListComp elt [⟨tg, iter, [cnd], 0⟩] scope pos) (tLc wi (gOf X.K t) (bT X scope cnd) (bE X scope elt) t.slots) ∧
      ∀ σ H G ρ c Q, At X.K G H σ ρ c → Post X W σ (DenR X.K) G H (M.bind (mI ρ) (fun xs => M.bind (mapGo (lcF t ρ mC mE) xs []) fun ds => M.pure (.lst ds)) c) Q → tLc wi (gOf X.K t) (bT X scope cnd) (bE X scope elt) t.slots σ H Q := by
  obtain ⟨wi, i1, i2⟩ := hI
  have hp := pe_lc (elt := elt) (ifs := [cnd]) (pos := pos) hc hnd i1 L.blk (fun s H C cl fp => (pg_blk hc hN hnd hs L.tg s H C cl fp).1) (fun s H C cl fp => pts_one (pt_bT s H C cl fp)) (fun s H C cl fp => pe_bE s H C cl fp) (fold_plain L.set)
  rw [own_slots] at hp
  refine ⟨wi, i1, hp, fun σ H G ρ c Q at0 p => ?_⟩
  exact lc_read i2 (pg_blk hc hN hnd hs L.tg X.s_0 H 0 [] []).2 (fun σ H G ρ c c' b Q a e k => bT_of hC a e k) (fun σ H G ρ c c' d Q a e k => bE_of hE a e k) at0 p
end
end PF
end

/-! ## PfS21 -/
section
/-! PfS21: the law's _law_kin, within an except suite. -/
set_option linter.all false
set_option autoImplicit false
set_option maxHeartbeats 1000000
namespace PF
open PySem L2 LamX L2H PyProof.Rows
section
variable {X : Cx}
theorem call_isE' {a D : Addr} {oe : Obj} (C : ExcC X.K D) (hz : Zc (.ref D) none oe) (hf : ∃ vs, oe.data = .fields vs) (hp : (a, oe) ∈ X.pn) : CallR X (.builtin "isinstance") (rIsE X.K D a) := by
  intro pins s σ H xs us Q I r h
  obtain ⟨c, cv, b, rfl, hcv, e, q⟩ := h
  obtain ⟨u1, u2, rfl, rx, rt⟩ := vals2 r
  cases rx
  have ec := hcv _ rt
  subst ec
  obtain ⟨hget, _⟩ := I.pin (a, oe) (List.mem_append_left _ hp)
  obtain ⟨vs, hv⟩ := hf
  have J : PySem.W.InstAt s.heap a oe D none := by
    obtain ⟨oc, od, oda, osl⟩ := oe
    obtain ⟨h1, h2⟩ := hz
    dsimp only at h1 h2 hv
    subst h1 h2 hv
    exact ⟨hget, rfl, rfl, trivial⟩
  exact PySem.W.kia_one (PySem.W.handS_kitx_exc C.hg C.hk C.hs C.hd C.ha C.hn C.ht C.hm) I.kIn J e (fun z => nomatch z) fun tk => ⟨.bl b, H, I.kept (t' := tk) fun _ _ z => z, rfl, q⟩
end
/-- isinstance(nm, x) -/
def isT (sc : Scope) (nm x : Str) : Expr → Bool
  | .Call (.Name f _) [.Name y _, .Name c _] [] _ => decide (f = "isinstance") && glB sc f && decide (y = nm) && visB sc y && nd y && !(y == ("__classdict__" : Str)) && decide (c = x) && glB sc c && nd c
  | _ => false
def chkKin (sc : Scope) (nm : Str) : List (Str × Str) → Str × Str × Str → List Stmt → Bool
  | [], l, sts => match sts with
    | [.Return (some (.IfExp t (.Constant (.str z) _ _) (.Constant (.str d) _ _) _)) _] => isT sc nm l.1 t && decide (z = l.2.1) && decide (d = l.2.2)
    | _ => false
  | c :: r, l, sts => match sts with
    | .If t [.Return (some (.Constant (.str z) _ _)) _] [] _ :: rest => isT sc nm c.1 t && decide (z = c.2) && chkKin sc nm r l rest
    | _ => false
/-- what the tests tell of an instance of C -/
def kinRun (K : PySem.W.Frag) (mg : Str → Option Value) (C : Addr) : List (Str × Str) → Str × Str × Str → Str → Prop
  | [], l, w => ∃ (D : Addr) (b : Bool), mg l.1 = some (.ref D) ∧ PySem.W.kitOne K (.ref C) (.ref D) = some b ∧ w = if b = true then l.2.1 else l.2.2
  | c :: r, l, w => ∃ (D : Addr) (b : Bool), mg c.1 = some (.ref D) ∧ PySem.W.kitOne K (.ref C) (.ref D) = some b ∧ if b = true then w = c.2 else kinRun K mg C r l w
section
variable {X : Cx} {sc : Scope} {nm : Str} {a C : Addr} {oe : Obj}
theorem pt_isT (hs : X.env.scope = sc) (hN : X.N[0]? = some nm) (hmi : X.mg "isinstance" = none) (hC : ExcC X.K C) (hz : Zc (.ref C) none oe) (hf : ∃ vs, oe.data = .fields vs) (hp : (a, oe) ∈ X.pn) {x : Str} {D : Addr} {b : Bool} {t : Expr} (h : isT sc nm x t = true) (hm : X.mg x = some (.ref D)) (hk : PySem.W.kitOne X.K (.ref C) (.ref D) = some b) :
    ∃ tt, PT X t tt ∧ ∀ σ H (Q : Bool → Hp → Prop), σ[0]? = some (some (.ref a)) → Q b H → tt σ H Q := by
  unfold isT at h
  split at h
  · rename_i f pf y py c pc pos
    simp only [Bool.and_eq_true, decide_eq_true_eq, Bool.not_eq_true'] at h
    obtain ⟨⟨⟨⟨⟨⟨⟨⟨h1, h2⟩, h3⟩, h4⟩, h5⟩, h6⟩, h7⟩, h8⟩, h9⟩ := h
    subst h1 h3 h7
    have hy : PE X (.Name y py) (tVar 0) := pe_var hN (vis_of hs h4) (by simpa [nd] using h5) h6
    have hc : PE X (.Name c pc) (tC (.ref D)) := pe_glob (gl_of hs h8) hm rfl (by simpa [nd] using h9)
    refine ⟨_, pt_truth (pe_callB (call_isE' hC hz hf hp) (gl_of hs h2) hmi PyProof.Rows.boot_isinstance (pa_cons hy (pa_cons hc pa_nil))) (fun _ => rfl), fun σ H Q h0 q => ?_⟩
    exact ⟨.ref a, h0, .ref D, .ref D, b, rfl, fun u hu => hu, hk, b, tru_of (K := X.K) (G := ⟨none, fun _ => False, []⟩) (d := .bl b) rfl rfl, q⟩
  · cases h
theorem sndKin (hs : X.env.scope = sc) (hN : X.N[0]? = some nm) (hmi : X.mg "isinstance" = none) (hC : ExcC X.K C) (hz : Zc (.ref C) none oe) (hf : ∃ vs, oe.data = .fields vs) (hp : (a, oe) ∈ X.pn) : ∀ (ch : List (Str × Str)) (l : Str × Str × Str) (w : Str) (sts : List Stmt), chkKin sc nm ch l sts = true → kinRun X.K X.mg C ch l w →
    ∃ t, PSs X sts t ∧ ∀ (D : Ends) σ H, σ[0]? = some (some (.ref a)) → D.rt (.str w) H → t D σ H
  | [], l, w, sts, h, hk => by
    obtain ⟨D, b, h1, h2, rfl⟩ := hk
    simp only [chkKin] at h
    split at h
    · simp only [Bool.and_eq_true, decide_eq_true_eq] at h
      obtain ⟨⟨h3, h4⟩, h5⟩ := h
      subst h4 h5
      obtain ⟨tt, p1, p2⟩ := pt_isT hs hN hmi hC hz hf hp h3 h1 h2
      refine ⟨_, pss_one (ps_ret (pe_ifExp p1 pe_str pe_str)), fun D σ H h0 q => ?_⟩
      refine p2 σ H _ h0 ?_
      cases b with
      | true => exact q
      | false => exact q
    · cases h
  | c :: r, l, w, sts, h, hk => by
    obtain ⟨D, b, h1, h2, hk⟩ := hk
    simp only [chkKin] at h
    split at h
    · simp only [Bool.and_eq_true, decide_eq_true_eq] at h
      obtain ⟨⟨h3, h4⟩, h5⟩ := h
      subst h4
      obtain ⟨tt, p1, p2⟩ := pt_isT hs hN hmi hC hz hf hp h3 h1 h2
      cases b with
      | true =>
        rw [if_pos rfl] at hk
        subst hk
        exact ⟨_, pss_cons (ps_if p1 (pss_one (ps_ret pe_str)) pss_nil) pss_never, fun D σ H h0 q => p2 σ H _ h0 q⟩
      | false =>
        rw [if_neg Bool.false_ne_true] at hk
        obtain ⟨t, q1, q2⟩ := sndKin hs hN hmi hC hz hf hp r l w _ h5 hk
        exact ⟨_, pss_cons (ps_if p1 (pss_one (ps_ret pe_str)) pss_nil) q1, fun D σ H h0 q => p2 σ H _ h0 (q2 D σ H h0 q)⟩
    · cases h
end
end PF
end

/-! ## PfS22 -/
section
/-! PfS22: the law's _law_try of a lambda. -/
set_option linter.all false
set_option autoImplicit false
set_option maxHeartbeats 1000000
namespace PF
open PySem L2 LamX L2H PyProof.Rows
/-- a def entered within an except suite: the handled exception's object is p -/
theorem run_ofH {CX : CXT} {P : Program} {w : World} {K : PySem.W.Frag} {mg : Str → Option Value} {base : Heap} {k : Nat} {x qual : Str} {st : Stmt} {f : Addr} {fd : FuncData} {N ps : List Str} (F : L2.Fun K x qual st f fd) (S : FnScope N ps (defScope st))
    {A : Around} {outer : List PySem.Env} {s : Shared} {H : Hp} {us : List Value} {vs : List V} {Q : VK} {E : XK} {p : Addr × Obj} (hr : RoomH (k + 1) A) (hpin : PinOk outer H s p) (e0 : Env0 P w K mg base A outer s H) (hb : BindsTo s fd ⟨us, []⟩ (ps.zip us)) (r : Vals vs us) (hl : vs.length = ps.length)
    (hbody : ∀ cdv : Value, ∃ t, PSs (cxH CX P w K mg base N qual (defScope st) f cdv A outer s H E p) (defBody st) t ∧ t { nx := fun _ H' => Q .non H', rt := Q } (L2.start N vs) H) :
    codeAny (model P w) A (.call (.ref f) ⟨us, []⟩) (CR CX outer P w H s Q E) s := by
  obtain ⟨oc, od, kV, doc, pm, an, cdv, ct, osl, rfl, lk, hcd⟩ := F.ex
  have KX : K.In s.heap := e0.mod.kin.keeps fun b o e => (e0.bs b o e).1
  have lim : s.heap.NoLimit := e0.mod.nolimit.keeps fun b o e => (e0.bs b o e).1
  have hkind : ∀ y ∈ ps.zip us, (defScope st).names.lookup y.1 = some .local ∨ ((defScope st).names.lookup y.1 = some .cell ∧ ((cellsFrom (s.heap.objs.size + 1) (defScope st).names []).lookup y.1).isSome = true) := fun ⟨n, v⟩ hy => by
    rcases S.par n (List.of_mem_zip hy).1 with q | q
    · exact .inl q
    · exact .inr ⟨q, PySem.W.cellsFrom_some _ _ _ (.inl q)⟩
  refine codeAny_call_function hr.depth (KX _ _ lk) rfl S.co S.gen rfl (PySem.W.codeRec_of KX hcd) (hb _ _ _ _ ?_)
  refine wpAny_newFunctionEnv_cells S.kind hkind fun env he s1 x => ?_
  subst he
  refine ⟨lim.keeps x.toInCall.keep, codeAny_func ?_⟩
  obtain ⟨t, ht, hq⟩ := hbody cdv
  have I : Inv (cxH CX P w K mg base N qual (defScope st) f cdv A outer s H E p) [] (L2.start N vs) H s1 := inv_startH S hpin e0 hl r x
  refine wpAny_mono (ht.run [] s1 (L2.start N vs) H _ I hq) (fun fl s' hs => ?_) fun e s' hs => hs
  cases fl with
  | ret u =>
    obtain ⟨v, σ', H', J, rv, q⟩ := hs
    exact ⟨v, H', J.os, J.bare, J.base, J.hok, rv, q⟩
  | next =>
    obtain ⟨σ', H', J, q⟩ := hs
    exact ⟨.non, H', J.os, J.bare, J.base, J.hok, rfl, q⟩
  | brk =>
    obtain ⟨_, _, _, q⟩ := hs
    exact q.elim
  | cont =>
    obtain ⟨_, _, _, q⟩ := hs
    exact q.elim
/-- the law's _law_kin -/
structure KinFn (K : PySem.W.Frag) (mg : Str → Option Value) (kx : Str) (ch : List (Str × Str)) (l : Str × Str × Str) : Prop where
  ex : ∃ (qual : Str) (st : Stmt) (f : Addr) (fd : FuncData) (N : List Str) (nm x : Str), L2.Fun K x qual st f fd ∧ FnScope N [nm] (defScope st) ∧ N[0]? = some nm ∧ mg kx = some (.ref f) ∧ PySem.W.keepIn K (.ref f) = true ∧ L2.Binds K fd [nm] [] ∧ chkKin (defScope st) nm ch l (defBody st) = true
  mi : mg "isinstance" = none
/-- what is known of an exception of the class C -/
structure KinOk (K : PySem.W.Frag) (mg : Str → Option Value) (OE : Addr) (ch : List (Str × Str)) (l : Str × Str × Str) (C : Addr) (w : Str) : Prop where
  cls : ExcC K C
  sub : PySem.W.exmOne K (.ref C) (.ref OE) = some true
  run : kinRun K mg C ch l w
section
variable {Y : Cx} {kx : Str} {ch : List (Str × Str)} {l : Str × Str × Str} {a OE : Addr} {oe : Obj} {cls : Value} {d : Option Addr} {e : Expr} {te : TE} {p pos : Pos}
theorem pe_kin (kf : KinFn Y.K Y.mg kx ch l) (hz : Zc cls d oe) (hf : ∃ vs, oe.data = .fields vs) (hp : (a, oe) ∈ Y.pn) (hr : RoomH 1 Y.A) (he : PE Y e te) (hg : Gl Y kx) (hdb : (kx == ("__debug__" : Str)) = false) (hns : nstar e = true) :
    PE Y (.Call (.Name kx p) [e] [] pos) (fun σ H Q => ∃ C w, cls = .ref C ∧ d = none ∧ KinOk Y.K Y.mg OE ch l C w ∧ te σ H fun v H1 => v = .ref a ∧ Q (.str w) H1) := by
  obtain ⟨qual, st, f, fd, N, nm, x, F, S, hN, hm, hk, hb, hc⟩ := kf.ex
  refine ⟨fun pins s σ H Q I h => ?_⟩
  obtain ⟨C, w, rfl, rfl, ko, h⟩ := h
  refine wpAny_Call_Name_kw (ld_glob I hg hm ?_ hdb)
  refine PySem.W.callWith_K (h₀ := Y.base) I.ok.mod.kin hk ?_ (star_cons hns) rfl
  rw [star_cons hns]
  show wpAny _ _ (spliced ((false, eval e Y.env) :: backTo pos (starEach [] Y.env))) _ _ s
  refine Calls.spliced_cons (thn (he.run pins s σ H _ I h) fun u s1 ⟨v, H1, I1, r1, ev, q⟩ => ?_)
  subst ev
  refine Calls.spliced_nil ⟨I1.kIn, ?_⟩
  · have r : Vals [V.ref a] [u] := .cons r1 .nil
    generalize hus : [u] = us at r ⊢
    have hl : us.length = [nm].length := by rw [← r.length]; rfl
    have b := hb s1 us I1.kIn (by rw [List.append_nil]; exact hl)
    rw [List.append_nil] at b
    have P1 := I1.pin (a, oe) (List.mem_append_left _ hp)
    have hpin : PinOk Y.stack H1 s1 (a, oe) := ⟨P1.1, P1.2.1, fun hm => (List.mem_cons.mp (I1.stkSub a hm)).elim P1.2.2.1 P1.2.2.2.1, P1.2.2.2.2⟩
    refine wpAny_call (codeAny_mono (run_ofH (CX := C8.CX0) (E := C8.E0) (Q := Q) (k := 0) F S hr hpin I1.env0 b r rfl fun cdv => ?_) fun r s' hq => ?_)
    · obtain ⟨t, t1, t2⟩ := sndKin (X := cxH C8.CX0 Y.prog Y.w Y.K Y.mg Y.base N qual (defScope st) f cdv Y.A Y.stack s1 H1 C8.E0 (a, oe)) rfl hN kf.mi ko.cls hz hf (show (a, oe) ∈ [(a, oe)] from List.mem_singleton.mpr rfl) ch l w _ hc ko.run
      exact ⟨t, t1, t2 _ _ _ rfl q⟩
    · cases r with
      | error e => exact (show False from hq).elim
      | ok fl =>
        cases fl with
        | ret u => exact I1.after hq
        | next => exact False.elim hq
        | brk => exact False.elim hq
        | cont => exact False.elim hq
end
end PF
end

/-! ## PfS23 -/
section
/-! PfS23: the law's _law_try of a lambda. -/
set_option linter.all false
set_option autoImplicit false
set_option maxHeartbeats 1000000
namespace PF
open PySem L2 LamX L2H PyProof.Rows
def chkTry (sc : Scope) (body : List Stmt) : Bool := match body with
  | [.Assign [.Name f1 _] (.Constant .none _ _) _, .Try [.Assign [.Name f2 _] (.Tuple [.Constant (.str tl) _ _, .Call (.Name a _) [] [] _] _ _) _] [.ExceptHandler (some (.Name oe _)) (some e) [.Assign [.Name f3 _] (.Call (.Name kn _) [.Name e2 _] [] _) _] _] [] [] _, .Return (some (.Name f4 _)) _] =>
    decide (f1 = "_law_found") && decide (f2 = "_law_found") && decide (f3 = "_law_found") && decide (f4 = "_law_found") && decide (tl = "told") && decide (a = "_law_call_so") && decide (oe = "OnceError") && decide (e = "_law_e") && decide (e2 = "_law_e") && decide (kn = "_law_kin") &&
      glB sc "OnceError" && glB sc "_law_kin" && decide (sc.names.lookup ("_law_found" : Str) = some .local) && decide (sc.names.lookup ("_law_e" : Str) = some .local) && decide (sc.names.lookup ("_law_call_so" : Str) = some .local)
  | _ => false
def tryN : List Str := ["_law_call_so", "_law_found", "_law_e"]
theorem tryN_nd : tryN.Nodup := by decide +kernel
/-- what the def makes of the lambda's reading -/
def TTry (K : PySem.W.Frag) (mg : Str → Option Value) (OE : Addr) (ch : List (Str × Str)) (l : Str × Str × Str) : (XK → Hp → VK → Prop) → Hp → VK → Prop := fun tl H Q =>
  ∀ K1 : VK, (∀ v H', (∀ (q : Addr) (o : Obj), H' q = none → o.dict = none → Q (.ref q) (upd H' q (.frz o (.tup [.str ("told" : Str), v])))) → K1 v H') →
    tl (fun cls d H' => ∃ C w, cls = .ref C ∧ d = none ∧ KinOk K mg OE ch l C w ∧ Q (.str w) H') H K1
theorem try_gives {X : Cx} {x : Str} {sg : Scope} {g OE : Addr} {cdg : Value} {q : Str} {body : List Stmt} {ch : List (Str × Str)} {l : Str × Str × Str} (hc : chkTry sg body = true) (hk : sg.kind = .function) (kf : KinFn X.K X.mg "_law_kin" ch l) (hoe : X.mg "OnceError" = some (.ref OE)) (hr : Room 3 X.A) :
    GivesTo X tryN x sg g cdg body "_law_call_so" q (TTry X.K X.mg OE ch l) := by
  unfold chkTry at hc
  split at hc
  · rename_i f1 p1 k1 p2 p3 f2 p4 tl k2 p5 a p6 p7 k3 p8 p9 oe p10 e f3 p11 kn p12 e2 p13 p14 p15 p16 p17 f4 p18 p19
    simp only [Bool.and_eq_true, decide_eq_true_eq] at hc
    obtain ⟨⟨⟨⟨⟨⟨⟨⟨⟨⟨⟨⟨⟨⟨h1, h2⟩, h3⟩, h4⟩, h5⟩, h6⟩, h7⟩, h8⟩, h9⟩, h10⟩, h11⟩, h12⟩, h13⟩, h14⟩, h15⟩ := hc
    subst h1 h2 h3 h4 h5 h6 h7 h8 h9 h10
    intro f c' s H Q tl act hcc h
    have hgo : Gl (cxOf C8.CX0 X.prog X.w X.K X.mg X.base tryN x sg g cdg X.A X.stack s H C8.E0).nox "OnceError" := gl_of (sc := sg) rfl h11
    have hN0 : (tryN)[0]? = some ("_law_call_so" : Str) := rfl
    have hN1 : (tryN)[1]? = some ("_law_found" : Str) := rfl
    have hN2 : (tryN)[2]? = some ("_law_e" : Str) := rfl
    refine ⟨_, pss_cons (ps_set (X := (cxOf C8.CX0 X.prog X.w X.K X.mg X.base tryN x sg g cdg X.A X.stack s H C8.E0).nox) (i := 1) tryN_nd hN1 (.inl h13) pe_non) (pss_cons
      (ps_try_as (X := (cxOf C8.CX0 X.prog X.w X.K X.mg X.base tryN x sg g cdg X.A X.stack s H C8.E0).nox) (c := .ref OE) (i := 2) (Wout := fun _ _ _ _ => False)
        (tb := fun W D σ H => ∃ Ech : XK, (∀ cls d σ' H', Ech cls d H' → W cls d σ' H') ∧ σ[0]? = some (some (.ref f)) ∧ H c' = some (CodeO c' q) ∧ tl Ech H fun v H1 => 2 ≤ sizeLine ∧ ∀ (q : Addr) (o : Obj), H1 q = none → o.dict = none → D.nx (σ.set 1 (some (.ref q))) (upd H1 q (.frz o (.tup [.str ("told" : Str), v]))))
        (ts := fun a cls d D σ H => σ.length = 3 → ∃ C w, cls = .ref C ∧ d = none ∧ KinOk X.K X.mg OE ch l C w ∧ σ[2]? = some (some (.ref a)) ∧ D.nx (σ.set 1 (some (.str w))) H)
        rfl rfl tryN_nd hN2 h14 ⟨hgo, by decide, .inl hoe⟩ L2.takes0 (fun W pn xe tk _ => ?_) (fun a oe cls d pn hz hf => ?_))
      (pss_one (ps_ret (pe_var (i := 1) hN1 (.inl h13) (by decide) (by decide))))), ?_⟩
    · refine ⟨fun pins s' σ H' D I h' => ?_⟩
      obtain ⟨Ech, hW, z1, z2, z3⟩ := h'
      have hp := act W pn xe Ech p6 p7 tk hW
      have hq := pss_one (ps_set (X := (cxOf C8.CX0 X.prog X.w X.K X.mg X.base tryN x sg g cdg X.A X.stack s H C8.E0).tr pn xe) (i := 1) (pos := p9) (pos' := p4) tryN_nd hN1 (.inl h13) (pe_tupF (k := k3) (pos := p8) (pa_cons (pe_str (x := ("told" : Str)) (j := k2) (pos := p5)) (pa_cons hp pa_nil))) rfl)
      exact hq.run pins s' σ H' D I ⟨z1, z2, z3⟩
    · refine ⟨fun pins s' σ H' D I h' => ?_⟩
      obtain ⟨C, w, e1, e2, ko, e3, e4⟩ := h' I.len
      have hrr : RoomH 1 ((cxOf C8.CX0 X.prog X.w X.K X.mg X.base tryN x sg g cdg X.A X.stack s H C8.E0).nox.suite a ((a, oe) :: pn)).A := by
        have r1 : RoomH 1 (X.A.deeper (PyProof.Rows.envOfC x sg s.heap.objs.size g cdg)) := RoomH.mono (j := 1) (k := 2) (roomH_of (hr.deeper (PyProof.Rows.envOfC x sg s.heap.objs.size g cdg))) (by decide)
        exact ⟨r1.dp, r1.un⟩
      have hp := pe_kin (Y := (cxOf C8.CX0 X.prog X.w X.K X.mg X.base tryN x sg g cdg X.A X.stack s H C8.E0).nox.suite a ((a, oe) :: pn)) (p := p12) (pos := p14) (OE := OE) kf hz hf List.mem_cons_self hrr (pe_var (i := 2) (pos := p13) hN2 (.inl h14) (by decide) (by decide)) (gl_of (sc := sg) rfl h12) (by decide) rfl
      have hq := pss_one (ps_set (X := (cxOf C8.CX0 X.prog X.w X.K X.mg X.base tryN x sg g cdg X.A X.stack s H C8.E0).nox.suite a ((a, oe) :: pn)) (i := 1) (pos := p15) (pos' := p11) tryN_nd hN1 (.inl h13) hp rfl)
      exact hq.run pins s' σ H' D I ⟨C, w, e1, e2, ko, .ref a, e3, rfl, e4⟩
    · refine ⟨fun cls d H' => ∃ C w, cls = .ref C ∧ d = none ∧ KinOk X.K X.mg OE ch l C w ∧ Q (.str w) H', fun cls d σ' H' hh => ?_, rfl, hcc, h _ fun v H' hv => ⟨by decide, fun q o hq ho => ⟨.ref q, rfl, hv q o hq ho⟩⟩⟩
      obtain ⟨C, w, rfl, rfl, ko, hq⟩ := hh
      refine ⟨true, ko.sub, fun _ a ha hl => ⟨C, w, rfl, rfl, ko, ?_, .str w, ?_, hq⟩, fun z => Bool.noConfusion z⟩
      · rw [List.length_set] at hl
        exact List.getElem?_set_self (by omega)
      · rw [List.length_set] at hl
        rw [List.getElem?_set_ne (by decide)]
        exact List.getElem?_set_self (by rw [List.length_set]; omega)
  · cases hc
end PF
end

/-! ## PfS24 -/
section
/-! PfS24: what the context must show; a lambda handed to _law_try. -/
set_option linter.all false
set_option autoImplicit false
set_option maxHeartbeats 1000000
namespace PF
open PySem L2 LamX L2H PyProof.Rows
/-- what a def shows that hands lambdas to _law_try -/
structure LamOk (kin : Nat → Str → Option Str) (T : Tab) (Φ : Orc) (X : Cx) : Prop where
  ex : ∃ (k : Nat) (g OE c P : Addr) (st : Stmt) (fd : FuncData) (ch : List (Str × Str)) (l : Str × Str × Str), L2.Fun X.K "_law_try" "_law_try" st g fd ∧ FnScope tryN ["_law_call_so"] (defScope st) ∧ X.mg "_law_try" = some (.ref g) ∧ PySem.W.keepIn X.K (.ref g) = true ∧ L2.Binds X.K fd ["_law_call_so"] [] ∧
    chkTry (defScope st) (defBody st) = true ∧ KinFn X.K X.mg "_law_kin" ch l ∧ X.mg "OnceError" = some (.ref OE) ∧ TabB X.base X.mg c P ∧ X.env.code = .ref c ∧ tabK X.K = [(P, X.env.qual ++ "<lambda>")] ∧ Room (k + 3) X.A ∧
    (∀ f n z cv, kin f n = some z → X.mg n = some cv → n ≠ ("TooMany" : Str) ∧ ∃ C, cv = .ref C ∧ KinOk X.K X.mg OE ch l C z) ∧
    (∀ g x n, T.fn g = some (x, n) → Callee X.prog X.w X.K X.mg X.base (k + 1) x n (Φ g))
structure Good (kin : Nat → Str → Option Str) (T : Tab) (Φ : Orc) (X : Cx) (W : WX) : Prop where
  calm : X.calm = true
  nd : X.N.Nodup
  units : X.A.units + 65 < cLine
  blt : ∀ x, T.blts.contains x = true → X.mg x = none
  const : ∀ x k, T.consts.lookup x = some k → ∃ u, X.mg x = some u ∧ RelV (kV k) u
  call : ∀ g x n, T.fn g = some (x, n) → FnAt X x n (Φ g)
  takes : Takes X W
  lam : T.lam = true → LamOk kin T Φ X
section
variable {kin : Nat → Str → Option Str} {T : Tab} {Φ : Orc} {X : Cx} {W : WX}
theorem Good.blk (g : Good kin T Φ X W) (s0 : Shared) (H0 : Hp) (scope : Scope) (cenv : PySem.Env) (fp : List Addr) : Good kin T.nolam Φ (X.blk s0 H0 scope cenv fp) W0 where
  calm := g.calm
  nd := g.nd
  units := g.units
  blt := g.blt
  const := g.const
  call := fun f x n h => ⟨(g.call f x n h).ex⟩
  takes := takes_blk
  lam := fun h => Bool.noConfusion h
/-- the body's reading, whatever the def that calls it -/
def lE (X : Cx) (k : Nat) (scope : Scope) (e : Expr) (E : XK) : TE := fun σ H Q => ∀ (A : Around) (outer : List PySem.Env) (s0 : Shared) (H0 : Hp) (f c' : Addr), Room k (A.deeper (lamEnv X scope s0.heap.objs.size f c')) → ∀ (pins : List (Addr × Obj)) (s : Shared),
  L2.Inv (lamCx X A outer s0 H0 E scope f c') pins σ H s → wpAny (model X.prog X.w) (lamCx X A outer s0 H0 E scope f c').A (eval e (lamCx X A outer s0 H0 E scope f c').env) (EP (lamCx X A outer s0 H0 E scope f c') pins σ Q) (lamCx X A outer s0 H0 E scope f c').xe s
theorem lam_ext {G : Gh} {H H1 : Hp} (e : ExtN H H1) : Ext G H G H1 where
  keep := fun a o h k _ => e a o h fun ps z => by rw [z] at k; exact k
  cup := fun _ h => h
  new := fun _ h => .inl h
  sub := fun _ h => h
  add := fun _ h => .inl h
  live := fun a h => by
    obtain ⟨o, h1, h2⟩ := nh_get h
    exact nh_no (e a o h1 fun ps z => by rw [z] at h2; exact h2) h2
  tt := rfl
theorem se_lam {sc scope : Scope} {params : Arguments} {body : Expr} {p lpos pos : Pos} {m : PF.Env → M D} (n : Nat) (g : Good kin T Φ X W) (L : LamOk kin T Φ X) (hs : X.env.scope = sc) (hg : Gl X "_law_try") (hpar : noPar params = true) (hls : lamSB sc scope = true)
    (hbody : ∀ (A : Around) (outer : List PySem.Env) (s0 : Shared) (H0 : Hp) (f c' : Addr) (E : XK), Good kin T.nolam Φ (lamCx X A outer s0 H0 E scope f c') (fun cls d _ H => E cls d H) → SE (lamCx X A outer s0 H0 E scope f c') (fun cls d _ H => E cls d H) body m) :
    SE X W (.Call (.Name "_law_try" p) [.Lambda params body scope lpos] [] pos) fun ρ => told kin n (m ρ) := by
  obtain ⟨k, gf, OE, c, P, st, fd, ch, l, F, S, hm, hk, hb, hct, kf, hoe, TB, hcode, htk, hr, hkin, hcall⟩ := L.ex
  obtain ⟨oc, od, kV, doc, pm, an, cdv, ct, osl, rfl, lk, hcd⟩ := F.ex
  have hpe : params = ⟨[], [], none, [], [], none, []⟩ := by
    unfold noPar at hpar
    split at hpar
    · rfl
    · cases hpar
  subst hpe
  have good : ∀ (A : Around) (outer : List PySem.Env) (s0 : Shared) (H0 : Hp) (f c' : Addr) (E : XK), Room (k + 1) (A.deeper (lamEnv X scope s0.heap.objs.size f c')) → Good kin T.nolam Φ (lamCx X A outer s0 H0 E scope f c') (fun cls d _ H => E cls d H) := fun A outer s0 H0 f c' E hr' =>
    { calm := rfl, nd := g.nd, units := by have := hr'.un; show (A.deeper (lamEnv X scope s0.heap.objs.size f c')).units + 65 < cLine; omega, blt := g.blt, const := g.const
      call := fun i x n h => by
        obtain ⟨f', fd', ps', h1, h2, h3, h4, h5⟩ := (hcall i x n h).ex
        exact ⟨k + 1, f', fd', ps', h1, hr', h2, h3, h4, h5⟩
      takes := takes_of rfl rfl rfl rfl, lam := fun h => Bool.noConfusion h }
  refine ⟨_, pe_lamcall (T := tabK X.K) (TT := TTry X.K X.mg OE ch l) (t := lE X (k + 1) scope body) (k := k + 1) (Ng := tryN) (a := "_law_call_so") hg hm hk lk hcd hb S rfl (S.par _ (List.mem_singleton.mpr rfl) |>.elim (fun h => .inl h) (fun h => .inr (.inl h)))
    (try_gives hct S.kind kf hoe (hr.mono (by omega))) TB hcode (by rw [htk]; exact List.mem_singleton.mpr rfl) (fun q hq _ => by rw [htk] at hq; rw [List.mem_singleton.mp hq]) hr (lamS_by (by rw [hs]; exact hls)) rfl (fun q cl pm cv ctv => rfl)
    (fun A outer s0 H0 E f c' hr' => ⟨fun pins s σ H Q I h => h A outer s0 H0 f c' hr' pins s I⟩) (by decide) (by decide) (by decide), fun σ H G ρ cu Q at0 q => ?_⟩
  refine ⟨by rw [← at0.tq]; exact at0.trk.tb.tabs, fun H1 eN T1 K1 hK1 => ?_⟩
  intro A outer s0 H0 f c' hr' pins s I
  have ex : Ext G H G H1 := lam_ext eN
  have t1 : Trk G H1 := ⟨fun a h => ex.live a (at0.trk.there a h), at0.trk.apart, ⟨by rw [at0.tq]; exact T1⟩⟩
  have c1 : CupR G H1 cu := by
    have q1 := at0.cup
    cases cu with
    | none => exact q1
    | some pr =>
      obtain ⟨a, e1, e2⟩ := q1
      exact ⟨a, e1, eN a _ e2 fun ps z => by cases z⟩
  have at1 := at0.stay ex t1 c1
  obtain ⟨tt, p1, p2⟩ := hbody A outer s0 H0 f c' _ (good A outer s0 H0 f c' _ hr')
  refine p1.run pins s σ H1 K1 I (p2 σ H1 G ρ cu K1 at1 ?_)
  unfold told at q
  dsimp only at q
  cases em : m ρ cu with
  | ok d c2 =>
    rw [em] at q
    refine fun v H2 G2 e2 t2 q2 r2 => hK1 v H2 fun a o ha ho => ?_
    exact q (.ref a) _ G2 ((ex.trans e2).trans (Ext.made ha)) (t2.made ha) (q2.made ha) ⟨a, _, o, rfl, not_F t2 q2 ha, upd_same, ho, rfl, Den.stay (Ext.made ha).stb _ _ r2, True.intro⟩
  | exc n2 c2 =>
    rw [em] at q
    intro cv dx H2 G2 e2 t2 q2 hk2
    dsimp only at q
    cases ek : kin n n2 with
    | none => rw [ek] at q; exact (q : False).elim
    | some z =>
      rw [ek] at q
      obtain ⟨h1, h2⟩ := hk2
      obtain ⟨n3, C, rfl, ko⟩ := hkin n n2 z cv ek h1
      exact ⟨C, z, rfl, h2 n3, ko, q _ H2 G2 (ex.trans e2) t2 q2 rfl⟩
  | stuck => rw [em] at q; exact (q : False).elim
end
end PF
end

/-! ## PfS12 -/
section
/-! PfS12: every expression that passes the look is as the evaluator says. -/
set_option linter.all false
set_option autoImplicit false
set_option maxHeartbeats 1000000
namespace PF
open PySem L2
theorem blt_none {kin : Nat → Str → Option Str} {T : Tab} {Φ : Orc} {X : Cx} {W : WX} {sc : Scope} {x : Str} (g : Good kin T Φ X W) (hs : X.env.scope = sc) (h : bltB T sc x = true) : Gl X x ∧ X.mg x = none := by
  unfold bltB at h
  rw [Bool.and_eq_true] at h
  exact ⟨gl_of hs h.1, g.blt x h.2⟩
theorem chkA_star {T : Tab} {N : List Str} {sc : Scope} : ∀ {as : Exs} {es : List Expr}, chkA T N sc as es = true → es.all nstar = true
  | .nil, es, h => by
    cases es with
    | nil => rfl
    | cons => simp [chkA] at h
  | .cons a as, es, h => by
    cases es with
    | nil => rfl
    | cons e es =>
      simp only [chkA, Bool.and_eq_true] at h
      rw [List.all_cons, Bool.and_eq_true]
      exact ⟨h.1.2, chkA_star h.2⟩
theorem chkB_star {T : Tab} {N : List Str} {sc : Scope} : ∀ {as : Exs} {es : List Expr}, chkB T N sc as es = true → es.all nstar = true
  | .nil, es, h => by
    cases es with
    | nil => rfl
    | cons => simp [chkB] at h
  | .cons a as, es, h => by
    cases es with
    | nil => rfl
    | cons e es =>
      simp only [chkB, Bool.and_eq_true] at h
      rw [List.all_cons, Bool.and_eq_true]
      exact ⟨h.1.2, chkB_star h.2⟩
section
variable {T : Tab} {N : List Str} {kin : Nat → Str → Option Str} {Φ : Orc}
theorem len_of {es : Exs} {xs : List Expr} {sc : Scope} (hl : xs.length ≤ 1000) (h : chkA T N sc es xs = true) : ∀ (ρ : PF.Env) (c c' : Cup) (ds : List D), evA kin Φ es ρ c = .ok ds c' → ds.length ≤ 1000 := fun ρ c c' ds e => by
  rw [evA_len h e]; exact hl
theorem M.bind_pure {α : Type} (m : M α) : M.bind m M.pure = m := by
  funext c
  unfold M.bind
  cases m c <;> rfl
theorem dflS {X : Cx} {W : WX} {sc : Scope} {ir : Ex} {e : Expr} (hN : X.N = N) (hs : X.env.scope = sc) (hc : chkT T N sc ir e = (chkE T N sc ir e && plainT e)) (he : evT kin Φ ir = fun ρ => M.bind (bor ρ (evE kin Φ ir ρ) ir) fun x => M.lift (truth x))
    (se : chkE T N sc ir e = true → SE X W e (evE kin Φ ir)) : (chkE T N sc ir e = true → SE X W e (evE kin Φ ir)) ∧ (chkT T N sc ir e = true → ST2 X W e (evT kin Φ ir)) := by
  refine ⟨se, fun h => ?_⟩
  rw [hc, Bool.and_eq_true] at h
  rw [he]
  refine (st_plain (sb_bor hN hs h.1 (se h.1)) h.2).two fun op vs pos z => ?_
  subst z
  cases h.2
theorem evT_cmp (op : Cop) (a b : Ex) : evT kin Φ (.cmp op a b) = fun ρ => M.bind (bor ρ (evE kin Φ a ρ) a) fun x => M.bind (bor ρ (evE kin Φ b ρ) b) fun y => M.lift (opC op x y) := by
  funext ρ
  show M.bind (M.bind (bor ρ (evE kin Φ a ρ) a) fun x => M.bind (bor ρ (evE kin Φ b ρ) b) fun y => M.bind (M.lift (opC op x y)) fun b => M.pure (.bl b)) (fun x => M.lift (truth x)) = _
  simp only [M.bind_assoc, M.pure_bind, truth]
  congr 1; funext x; congr 1; funext y
  exact M.bind_pure _
theorem evT_chain (o1 o2 : Cop) (a b c : Ex) : evT kin Φ (.chain o1 o2 a b c) = fun ρ => M.bind (evE kin Φ a ρ) fun x => M.bind (evE kin Φ b ρ) fun y => M.bind (M.lift (opC o1 x y)) fun k =>
      if k then M.bind (evE kin Φ c ρ) fun z => M.lift (opC o2 y z) else M.pure false := by
  funext ρ
  show M.bind (M.bind (evE kin Φ a ρ) fun x => M.bind (evE kin Φ b ρ) fun y => M.bind (M.lift (opC o1 x y)) fun k =>
      if k then M.bind (evE kin Φ c ρ) fun z => M.bind (M.lift (opC o2 y z)) fun b => M.pure (.bl b) else M.pure (.bl false)) (fun x => M.lift (truth x)) = _
  simp only [M.bind_assoc, M.ite_bind, M.pure_bind, truth]
  congr 1; funext x; congr 1; funext y; congr 1; funext k
  congr 1
  congr 1; funext z
  exact M.bind_pure _
mutual
theorem sndP : ∀ (ir : Ex) (T : Tab) (X : Cx) (W : WX) (sc : Scope) (e : Expr), Good kin T Φ X W → X.N = N → X.env.scope = sc → (chkE T N sc ir e = true → SE X W e (evE kin Φ ir)) ∧ (chkT T N sc ir e = true → ST2 X W e (evT kin Φ ir))
  | .var i, T, X, W, sc, e, g, hN, hs => dflS hN hs rfl rfl fun h => by
    simp only [chkE, chkP, dflC] at h
    exact se_var hN hs h
  | .cst k, T, X, W, sc, e, g, hN, hs => dflS hN hs rfl rfl fun h => by
    simp only [chkE, chkP, dflC] at h
    split at h
    · exact se_cst h
    · cases h
  | .glb x k, T, X, W, sc, e, g, hN, hs => dflS hN hs rfl rfl fun h => by
    simp only [chkE, chkP, dflC] at h
    split at h
    · simp only [Bool.and_eq_true, decide_eq_true_eq] at h
      obtain ⟨⟨⟨h1, h2⟩, h3⟩, h4⟩ := h
      subst h1
      obtain ⟨u, u1, u2⟩ := g.const _ k h4
      exact se_const (v := kV k) (pe_glob (gl_of hs h2) u1 u2 (nd_of h3)) (den_k k)
    · cases h
  | .bin op a b, T, X, W, sc, e, g, hN, hs => dflS hN hs rfl rfl fun h => by
    simp only [chkE, chkP, dflC] at h
    split at h
    · simp only [Bool.and_eq_true, decide_eq_true_eq] at h
      obtain ⟨⟨h1, h2⟩, h3⟩ := h
      subst h1
      obtain ⟨r, r1, r2⟩ := opB_ok (X := X) op
      exact se_bin r1 (sb_bor hN hs h2 ((sndP a _ X W sc _ g hN hs).1 h2)) (sb_bor hN hs h3 ((sndP b _ X W sc _ g hN hs).1 h3)) r2
    · cases h
  | .neg a, T, X, W, sc, e, g, hN, hs => dflS hN hs rfl rfl fun h => by
    simp only [chkE, chkP, dflC] at h
    split at h
    · exact se_neg ((sndP a _ X W sc _ g hN hs).1 h)
    · cases h
  | .not a, T, X, W, sc, e, g, hN, hs => ⟨(fun h => by
    simp only [chkE, chkP, dflC] at h
    split at h
    · exact se_not (sb_bor hN hs h ((sndP a _ X W sc _ g hN hs).1 h))
    · cases h), (fun h => by
    simp only [chkT, chkP] at h
    split at h
    · exact (st_not ((sndP a _ X W sc _ g hN hs).2 h).one).two (fun op vs pos z => by cases z)
    · cases h)⟩
  | .cmp op a b, T, X, W, sc, e, g, hN, hs => ⟨(fun h => by
    simp only [chkE, chkP, dflC] at h
    split at h
    · simp only [Bool.and_eq_true, decide_eq_true_eq] at h
      obtain ⟨⟨⟨h1, h2⟩, h3⟩, h4⟩ := h
      subst h1
      exact se_cmp g.units (sb_bor hN hs h2 ((sndP a _ X W sc _ g hN hs).1 h2)) (sb_bor hN hs h3 ((sndP b _ X W sc _ g hN hs).1 h3)) (mark_plain h4)
    · cases h), (fun h => by
    simp only [chkT, chkP] at h
    split at h
    · simp only [Bool.and_eq_true, decide_eq_true_eq] at h
      obtain ⟨⟨⟨h1, h2⟩, h3⟩, h4⟩ := h
      subst h1
      rw [evT_cmp]
      exact (st_cmp g.units (sb_bor hN hs h2 ((sndP a _ X W sc _ g hN hs).1 h2)) (sb_bor hN hs h3 ((sndP b _ X W sc _ g hN hs).1 h3)) (mark_plain h4)).two (fun op vs pos z => by cases z)
    · cases h)⟩
  | .chain o1 o2 a b c, T, X, W, sc, e, g, hN, hs => ⟨(fun h => by
    simp only [chkE, chkP, dflC] at h
    split at h
    · simp only [Bool.and_eq_true, decide_eq_true_eq] at h
      obtain ⟨⟨⟨⟨⟨h1, h2⟩, h3⟩, h4⟩, h5⟩, h6⟩ := h
      subst h1 h2
      exact se_chain g.units ((sndP a _ X W sc _ g hN hs).1 h3) ((sndP b _ X W sc _ g hN hs).1 h4) ((sndP c _ X W sc _ g hN hs).1 h5) (mark_plain h6)
    · cases h), (fun h => by
    simp only [chkT, chkP] at h
    split at h
    · simp only [Bool.and_eq_true, decide_eq_true_eq] at h
      obtain ⟨⟨⟨⟨⟨h1, h2⟩, h3⟩, h4⟩, h5⟩, h6⟩ := h
      subst h1 h2
      rw [evT_chain]
      exact (st_chain g.units ((sndP a _ X W sc _ g hN hs).1 h3) ((sndP b _ X W sc _ g hN hs).1 h4) ((sndP c _ X W sc _ g hN hs).1 h5) (mark_plain h6)).two (fun op vs pos z => by cases z)
    · cases h)⟩
  | .and a b, T, X, W, sc, e, g, hN, hs => ⟨(fun h => by
    simp only [chkE, chkP, dflC] at h
    split at h
    · rw [Bool.and_eq_true] at h
      exact se_and ((sndP a _ X W sc _ g hN hs).1 h.1) (se_one ((sndP b _ X W sc _ g hN hs).1 h.2))
    · rw [Bool.and_eq_true] at h
      exact se_and ((sndP a _ X W sc _ g hN hs).1 h.1) ((sndP b _ X W sc _ g hN hs).1 h.2)
    · cases h), (fun h => by
    simp only [chkT, chkP] at h
    split at h
    · rw [Bool.and_eq_true] at h
      obtain ⟨t, t1, t2⟩ := ((sndP b _ X W sc _ g hN hs).2 h.2).one
      exact st_and ((sndP a _ X W sc _ g hN hs).2 h.1).one (pw_and1 t1) t2
    · rw [Bool.and_eq_true] at h
      obtain ⟨t, t1, t3, t2⟩ := (sndP b _ X W sc _ g hN hs).2 h.2
      exact st_and ((sndP a _ X W sc _ g hN hs).2 h.1).one (t3 ⟨_, _, _, rfl⟩) t2
    · cases h)⟩
  | .or a b, T, X, W, sc, e, g, hN, hs => ⟨(fun h => by
    simp only [chkE, chkP, dflC] at h
    split at h
    · rw [Bool.and_eq_true] at h
      exact se_or ((sndP a _ X W sc _ g hN hs).1 h.1) (se_one ((sndP b _ X W sc _ g hN hs).1 h.2))
    · rw [Bool.and_eq_true] at h
      exact se_or ((sndP a _ X W sc _ g hN hs).1 h.1) ((sndP b _ X W sc _ g hN hs).1 h.2)
    · cases h), (fun h => by
    simp only [chkT, chkP] at h
    split at h
    · rw [Bool.and_eq_true] at h
      obtain ⟨t, t1, t2⟩ := ((sndP b _ X W sc _ g hN hs).2 h.2).one
      exact st_or ((sndP a _ X W sc _ g hN hs).2 h.1).one (pw_or1 t1) t2
    · rw [Bool.and_eq_true] at h
      obtain ⟨t, t1, t3, t2⟩ := (sndP b _ X W sc _ g hN hs).2 h.2
      exact st_or ((sndP a _ X W sc _ g hN hs).2 h.1).one (t3 ⟨_, _, _, rfl⟩) t2
    · cases h)⟩
  | .ite c a b, T, X, W, sc, e, g, hN, hs => ⟨(fun h => by
    simp only [chkE, chkP, dflC] at h
    split at h
    · simp only [Bool.and_eq_true] at h
      obtain ⟨⟨h1, h2⟩, h3⟩ := h
      exact se_ite ((sndP c _ X W sc _ g hN hs).2 h1).one ((sndP a _ X W sc _ g hN hs).1 h2) ((sndP b _ X W sc _ g hN hs).1 h3)
    · cases h), (fun h => by simp [chkT, chkP] at h)⟩
  | .tup es, T, X, W, sc, e, g, hN, hs => dflS hN hs rfl rfl fun h => by
    simp only [chkE, chkP, dflC] at h
    split at h
    · simp only [Bool.and_eq_true, decide_eq_true_eq] at h
      exact se_tup (len_of h.1 h.2) (sndA es _ X W sc _ g hN hs h.2)
    · cases h
  | .lst es, T, X, W, sc, e, g, hN, hs => dflS hN hs rfl rfl fun h => by
    simp only [chkE, chkP, dflC] at h
    split at h
    · simp only [Bool.and_eq_true, decide_eq_true_eq] at h
      exact se_lst (len_of h.1 h.2) (sndA es _ X W sc _ g hN hs h.2)
    · cases h
  | .idx a i, T, X, W, sc, e, g, hN, hs => dflS hN hs rfl rfl fun h => by
    simp only [chkE, chkP, dflC] at h
    split at h
    · simp only [Bool.and_eq_true] at h
      obtain ⟨⟨h1, h2⟩, h3⟩ := h
      exact se_idx g.units h3 (sb_bor hN hs h1 ((sndP a _ X W sc _ g hN hs).1 h1)) ((sndP i _ X W sc _ g hN hs).1 h2)
    · cases h
  | .sl a lo hi, T, X, W, sc, e, g, hN, hs => dflS hN hs rfl rfl fun h => by
    simp only [chkE, chkP, dflC] at h
    split at h
    · simp only [Bool.and_eq_true] at h
      obtain ⟨⟨h1, h2⟩, h3⟩ := h
      exact se_sl (sb_bor hN hs h1 ((sndP a _ X W sc _ g hN hs).1 h1)) (sndO lo _ X W sc _ g hN hs h2) (sndO hi _ X W sc _ g hN hs h3)
    · cases h
  | .step a k, T, X, W, sc, e, g, hN, hs => dflS hN hs rfl rfl fun h => by
    simp only [chkE, chkP, dflC] at h
    split at h
    · simp only [Bool.and_eq_true] at h
      exact se_step (sb_bor hN hs h.1 ((sndP a _ X W sc _ g hN hs).1 h.1)) ((sndP k _ X W sc _ g hN hs).1 h.2)
    · cases h
  | .lset a, T, X, W, sc, e, g, hN, hs => dflS hN hs rfl rfl fun h => by
    simp only [chkE, chkP, dflC] at h
    split at h
    · simp only [Bool.and_eq_true, decide_eq_true_eq] at h
      obtain ⟨⟨⟨⟨⟨h1, h2⟩, h3⟩, h4⟩, h5⟩, h6⟩ := h
      subst h1 h3
      obtain ⟨b1, b2⟩ := blt_none g hs h2
      obtain ⟨b3, b4⟩ := blt_none g hs h4
      exact se_lset g.calm b1 b2 b3 b4 h6 (sb_bor hN hs h5 ((sndP a _ X W sc _ g hN hs).1 h5))
    · cases h
  | .dnil, T, X, W, sc, e, g, hN, hs => dflS hN hs rfl rfl fun h => by
    simp only [chkE, chkP, dflC] at h
    split at h
    · exact se_dnil
    · cases h
  | .done a b, T, X, W, sc, e, g, hN, hs => dflS hN hs rfl rfl fun h => by
    simp only [chkE, chkP, dflC] at h
    split at h
    · simp only [Bool.and_eq_true] at h
      exact se_done g.units ((sndP a _ X W sc _ g hN hs).1 h.1) ((sndP b _ X W sc _ g hN hs).1 h.2)
    · cases h
  | .dput d a b, T, X, W, sc, e, g, hN, hs => dflS hN hs rfl rfl fun h => by
    simp only [chkE, chkP, dflC] at h
    split at h
    · simp only [Bool.and_eq_true] at h
      obtain ⟨⟨h1, h2⟩, h3⟩ := h
      exact se_dput g.units ((sndP d _ X W sc _ g hN hs).1 h1) ((sndP a _ X W sc _ g hN hs).1 h2) ((sndP b _ X W sc _ g hN hs).1 h3)
    · cases h
  | .dtwo a b c d, T, X, W, sc, e, g, hN, hs => dflS hN hs rfl rfl fun h => by
    simp only [chkE, chkP, dflC] at h
    split at h
    · simp only [Bool.and_eq_true] at h
      obtain ⟨⟨⟨h1, h2⟩, h3⟩, h4⟩ := h
      exact se_dtwo g.units ((sndP a _ X W sc _ g hN hs).1 h1) ((sndP b _ X W sc _ g hN hs).1 h2) ((sndP c _ X W sc _ g hN hs).1 h3) ((sndP d _ X W sc _ g hN hs).1 h4)
    · cases h
  | .dmrg d a, T, X, W, sc, e, g, hN, hs => dflS hN hs rfl rfl fun h => by
    simp only [chkE, chkP, dflC] at h
    split at h
    · simp only [Bool.and_eq_true] at h
      exact se_dmrg g.units ((sndP d _ X W sc _ g hN hs).1 h.1) ((sndP a _ X W sc _ g hN hs).1 h.2)
    · cases h
  | .call f es, T, X, W, sc, e, g, hN, hs => dflS hN hs rfl rfl fun h => by
    simp only [chkE, chkP, dflC] at h
    split at h
    · rename_i x p xs pos
      simp only [Bool.and_eq_true] at h
      obtain ⟨⟨⟨h1, h2⟩, h3⟩, h4⟩ := h
      split at h3
      · rename_i y n ef
        simp only [Bool.and_eq_true, decide_eq_true_eq] at h3
        obtain ⟨h3, h5⟩ := h3
        subst h3 h5
        have fa := g.call f _ _ ef
        have sa := sndA es _ X W sc _ g hN hs h4
        cases xs with
        | nil =>
          cases es with
          | nil => exact se_call0 fa g.takes (gl_of hs h1) h2
          | cons => simp [chkA] at h4
        | cons z zs => exact se_call fa g.takes (gl_of hs h1) h2 (chkA_star h4) sa
      · cases h3
    · cases h
  | .blt b es, T, X, W, sc, e, g, hN, hs => dflS hN hs rfl rfl fun h => by
    simp only [chkE, chkP, dflC] at h
    split at h
    · simp only [Bool.and_eq_true, decide_eq_true_eq] at h
      obtain ⟨⟨h1, h2⟩, h3⟩ := h
      subst h1
      obtain ⟨b1, b2⟩ := blt_none g hs h2
      exact se_blt g.calm g.units b1 b2 (chkB_star h3) (sndAB es _ X W sc _ g hN hs h3)
    · cases h
  | .isi a t, T, X, W, sc, e, g, hN, hs => dflS hN hs rfl rfl fun h => by
    simp only [chkE, chkP, dflC] at h
    split at h
    · simp only [Bool.and_eq_true, decide_eq_true_eq] at h
      obtain ⟨⟨⟨⟨⟨h1, h2⟩, h3⟩, h4⟩, h5⟩, h6⟩ := h
      subst h1 h3
      obtain ⟨b1, b2⟩ := blt_none g hs h2
      obtain ⟨b3, b4⟩ := blt_none g hs h4
      exact se_isi b1 b2 b3 b4 h6 ((sndP a _ X W sc _ g hN hs).1 h5)
    · cases h
  | .isx a k, T, X, W, sc, e, g, hN, hs => dflS hN hs rfl rfl fun h => by simp [chkE, chkP, dflC] at h
  | .mth m a es, T, X, W, sc, e, g, hN, hs => dflS hN hs rfl rfl fun h => by
    simp only [chkE, chkP, dflC] at h
    split at h
    · simp only [Bool.and_eq_true, decide_eq_true_eq] at h
      obtain ⟨⟨⟨⟨⟨⟨h1, hm⟩, h2⟩, h3⟩, h4⟩, h5⟩, h6⟩ := h
      subst h1
      have sa := sndA es _ X W sc _ g hN hs h3
      have so := sb_bor hN hs h2 ((sndP a _ X W sc _ g hN hs).1 h2)
      cases m with
      | index => exact se_index g.units so sa h4 (chkA_star h3) h6 h5
      | get => exact se_get g.units so sa h4 (chkA_star h3) h6 h5
      | count => exact se_count g.units so sa h4 (chkA_star h3) h6 h5
      | _ => cases hm
    · cases h
  | .lc t it e', T, X, W, sc, e, g, hN, hs => dflS hN hs rfl rfl fun h => by
    simp only [chkE, chkP, dflC] at h
    split at h
    · rename_i elt tg iter scope pos
      simp only [Bool.and_eq_true] at h
      obtain ⟨⟨⟨⟨h1, h2⟩, h3⟩, h4⟩, h5⟩ := h
      obtain ⟨wi, i1, i2, i3⟩ := se_lc (pos := pos) g.calm hN g.nd hs ⟨h2, by rw [hN, hs]; exact blkOk_by h3, h4⟩ (sndI it t _ X W sc iter tg g hN hs h1 h4) fun s0 H0 C cl fp =>
        (sndP e' _ (X.blk s0 H0 scope (compEnvC scope cl C X.env) fp) W0 (relS scope sc) elt (g.blk ..) hN (by rw [← hs]; rfl)).1 h5
      exact ⟨_, i2, i3⟩
    · cases h
  | .lcif t it c e', T, X, W, sc, e, g, hN, hs => dflS hN hs rfl rfl fun h => by
    simp only [chkE, chkP, dflC] at h
    split at h
    · rename_i elt tg iter cnd scope pos
      simp only [Bool.and_eq_true] at h
      obtain ⟨⟨⟨⟨⟨h1, h2⟩, h3⟩, h4⟩, h5⟩, h6⟩ := h
      obtain ⟨wi, i1, i2, i3⟩ := se_lcif (pos := pos) g.calm hN g.nd hs ⟨h2, by rw [hN, hs]; exact blkOk_by h3, h4⟩ (sndI it t _ X W sc iter tg g hN hs h1 h4) (fun s0 H0 C cl fp =>
        ((sndP c _ (X.blk s0 H0 scope (compEnvC scope cl C X.env) fp) W0 (relS scope sc) cnd (g.blk ..) hN (by rw [← hs]; rfl)).2 h5).one) fun s0 H0 C cl fp =>
        (sndP e' _ (X.blk s0 H0 scope (compEnvC scope cl C X.env) fp) W0 (relS scope sc) elt (g.blk ..) hN (by rw [← hs]; rfl)).1 h6
      exact ⟨_, i2, i3⟩
    · cases h
  | .cup a b, T, X, W, sc, e, g, hN, hs => dflS hN hs rfl rfl fun h => by
    simp only [chkE, chkP, dflC] at h
    split at h
    · simp only [Bool.and_eq_true] at h
      obtain ⟨⟨⟨h1, h2⟩, h3⟩, h4⟩ := h
      exact se_cup h3 h4 ((sndP a _ X W sc _ g hN hs).1 h1) ((sndP b _ X W sc _ g hN hs).1 h2)
    · cases h
  | .lam f e', T, X, W, sc, e, g, hN, hs => dflS hN hs rfl rfl fun h => by
    simp only [chkE, chkP, dflC] at h
    split at h
    · simp only [Bool.and_eq_true, decide_eq_true_eq] at h
      obtain ⟨⟨⟨⟨⟨h1, h2⟩, h3⟩, h4⟩, h5⟩, h6⟩ := h
      subst h2
      exact se_lam f g (g.lam h1) hs (gl_of hs h3) h4 h5 fun A outer s0 H0 f' c' E gg => (sndP e' _ (LamX.lamCx X A outer s0 H0 E _ f' c') _ _ _ gg hN rfl).1 h6
    · cases h
  | .trg1 t a, T, X, W, sc, e, g, hN, hs => dflS hN hs rfl rfl fun h => by
    simp only [chkE, chkP, dflC] at h
    split at h
    · simp only [Bool.and_eq_true, decide_eq_true_eq] at h
      obtain ⟨⟨⟨⟨⟨h1, h2⟩, h3⟩, h4⟩, h5⟩, h6⟩ := h
      subst h1 h3
      obtain ⟨b1, b2⟩ := blt_none g hs h2
      obtain ⟨b3, b4⟩ := blt_none g hs h4
      exact se_trg1 g.calm b1 b2 b3 b4 h6 ((sndP a _ X W sc _ g hN hs).1 h5)
    · cases h
  | .trg3 a b c, T, X, W, sc, e, g, hN, hs => dflS hN hs rfl rfl fun h => by
    simp only [chkE, chkP, dflC] at h
    split at h
    · simp only [Bool.and_eq_true, decide_eq_true_eq] at h
      obtain ⟨⟨⟨⟨⟨⟨⟨⟨⟨h1, h2⟩, h3⟩, h4⟩, h5⟩, h6⟩, h7⟩, h8⟩, h9⟩, h10⟩ := h
      subst h1 h3
      obtain ⟨b1, b2⟩ := blt_none g hs h2
      obtain ⟨b3, b4⟩ := blt_none g hs h4
      exact se_trg3 g.calm b1 b2 b3 b4 h8 h9 h10 ((sndP a _ X W sc _ g hN hs).1 h5) ((sndP b _ X W sc _ g hN hs).1 h6) ((sndP c _ X W sc _ g hN hs).1 h7)
    · cases h
  | .trg2 t a b, T, X, W, sc, e, g, hN, hs => dflS hN hs rfl rfl fun h => by
    simp only [chkE, chkP, dflC] at h
    split at h
    · simp only [Bool.and_eq_true, decide_eq_true_eq] at h
      obtain ⟨⟨⟨⟨⟨⟨⟨h1, h2⟩, h3⟩, h4⟩, h5⟩, h6⟩, h7⟩, h8⟩ := h
      subst h1 h3
      obtain ⟨b1, b2⟩ := blt_none g hs h2
      obtain ⟨b3, b4⟩ := blt_none g hs h4
      exact se_trg2 g.calm b1 b2 b3 b4 h7 h8 ((sndP a _ X W sc _ g hN hs).1 h5) ((sndP b _ X W sc _ g hN hs).1 h6)
    · cases h
theorem sndA : ∀ (ir : Exs) (T : Tab) (X : Cx) (W : WX) (sc : Scope) (es : List Expr), Good kin T Φ X W → X.N = N → X.env.scope = sc → chkA T N sc ir es = true → SA X W es (evA kin Φ ir)
  | .nil, T, X, W, sc, es, g, hN, hs, h => by
    cases es with
    | nil => exact sa_nil
    | cons => simp [chkA] at h
  | .cons a as, T, X, W, sc, es, g, hN, hs, h => by
    cases es with
    | nil => simp [chkA] at h
    | cons e es =>
      simp only [chkA, Bool.and_eq_true] at h
      exact sa_cons h.1.2 ((sndP a _ X W sc e g hN hs).1 h.1.1) (sndA as _ X W sc es g hN hs h.2)
theorem sndAB : ∀ (ir : Exs) (T : Tab) (X : Cx) (W : WX) (sc : Scope) (es : List Expr), Good kin T Φ X W → X.N = N → X.env.scope = sc → chkB T N sc ir es = true → SAB X W es (evB kin Φ ir)
  | .nil, T, X, W, sc, es, g, hN, hs, h => by
    cases es with
    | nil => exact sab_nil
    | cons => simp [chkB] at h
  | .cons a as, T, X, W, sc, es, g, hN, hs, h => by
    cases es with
    | nil => simp [chkB] at h
    | cons e es =>
      simp only [chkB, Bool.and_eq_true] at h
      exact sab_cons h.1.2 (sb_bor hN hs h.1.1 ((sndP a _ X W sc e g hN hs).1 h.1.1)) (sndAB as _ X W sc es g hN hs h.2)
theorem sndO : ∀ (ir : Opt) (T : Tab) (X : Cx) (W : WX) (sc : Scope) (o : Option Expr), Good kin T Φ X W → X.N = N → X.env.scope = sc → chkO T N sc ir o = true → SO X W o (evO kin Φ ir)
  | .no, T, X, W, sc, o, g, hN, hs, h => by
    cases o with
    | none => exact so_no
    | some => simp [chkO] at h
  | .some a, T, X, W, sc, o, g, hN, hs, h => by
    cases o with
    | none => simp [chkO] at h
    | some e =>
      simp only [chkO] at h
      exact so_some ((sndP a _ X W sc e g hN hs).1 h)
theorem sndI : ∀ (ir : Itr) (t : Tg) (T : Tab) (X : Cx) (W : WX) (sc : Scope) (e tg : Expr) {raw : Scope}, Good kin T Φ X W → X.N = N → X.env.scope = sc → chkI T N sc ir e tg = true → chkG N raw t tg = true → SI X W t tg e (evI kin Φ ir)
  | .val a, t, T, X, W, sc, e, tg, raw, g, hN, hs, h, ht => by
    simp only [chkI] at h
    exact si_val ((sndP a _ X W sc e g hN hs).1 h)
  | .rng1 a, t, T, X, W, sc, e, tg, raw, g, hN, hs, h, ht => by
    simp only [chkI] at h
    split at h
    · simp only [Bool.and_eq_true, decide_eq_true_eq] at h
      obtain ⟨⟨⟨h1, h2⟩, h3⟩, h4⟩ := h
      subst h1
      obtain ⟨b1, b2⟩ := blt_none g hs h2
      exact si_rng1 b1 b2 h4 ((sndP a _ X W sc _ g hN hs).1 h3)
    · cases h
  | .rng2 a b, t, T, X, W, sc, e, tg, raw, g, hN, hs, h, ht => by
    simp only [chkI] at h
    split at h
    · simp only [Bool.and_eq_true, decide_eq_true_eq] at h
      obtain ⟨⟨⟨⟨⟨h1, h2⟩, h3⟩, h4⟩, h5⟩, h6⟩ := h
      subst h1
      obtain ⟨b1, b2⟩ := blt_none g hs h2
      exact si_rng2 b1 b2 h5 h6 ((sndP a _ X W sc _ g hN hs).1 h3) ((sndP b _ X W sc _ g hN hs).1 h4)
    · cases h
  | .enum a, t, T, X, W, sc, e, tg, raw, g, hN, hs, h, ht => by
    simp only [chkI] at h
    split at h
    · simp only [Bool.and_eq_true, decide_eq_true_eq] at h
      obtain ⟨⟨⟨⟨h1, h2⟩, h3⟩, h4⟩, h5⟩ := h
      subst h1
      obtain ⟨b1, b2⟩ := blt_none g hs h2
      split at h5
      · cases t with
        | nm i => simp [chkG] at ht
        | tp ts => exact si_enum b1 b2 h4 ((sndP a _ X W sc _ g hN hs).1 h3)
      · cases h5
    · cases h
  | .zip a b, t, T, X, W, sc, e, tg, raw, g, hN, hs, h, ht => by
    simp only [chkI] at h
    split at h
    · simp only [Bool.and_eq_true, decide_eq_true_eq] at h
      obtain ⟨⟨⟨⟨⟨⟨h1, h2⟩, h3⟩, h4⟩, h5⟩, h6⟩, h7⟩ := h
      subst h1
      obtain ⟨b1, b2⟩ := blt_none g hs h2
      split at h7
      · cases t with
        | nm i => simp [chkG] at ht
        | tp ts => exact si_zip b1 b2 h5 h6 ((sndP a _ X W sc _ g hN hs).1 h3) ((sndP b _ X W sc _ g hN hs).1 h4)
      · cases h7
    · cases h
  | .items _, t, T, X, W, sc, e, tg, raw, g, hN, hs, h, ht => by simp [chkI] at h
end
theorem sndE (ir : Ex) (X : Cx) (W : WX) (sc : Scope) (e : Expr) (g : Good kin T Φ X W) (hN : X.N = N) (hs : X.env.scope = sc) (h : chkE T N sc ir e = true) : SE X W e (evE kin Φ ir) := (sndP ir T X W sc e g hN hs).1 h
theorem sndT (ir : Ex) (X : Cx) (W : WX) (sc : Scope) (e : Expr) (g : Good kin T Φ X W) (hN : X.N = N) (hs : X.env.scope = sc) (h : chkT T N sc ir e = true) : ST X W e (evT kin Φ ir) := ((sndP ir T X W sc e g hN hs).2 h).one
end
end PF
end

/-! ## PfS13 -/
section
/-! PfS13: a def's slots from statement to statement. -/
set_option linter.all false
set_option autoImplicit false
namespace PF
open PySem L2
/-- the state of a def's body: K the module, G0 H0 at its entry, P what else stays -/
structure RS (K : PySem.W.Frag) (G0 : Gh) (H0 : Hp) (P : Gh → Hp → Prop) (G : Gh) (H : Hp) (σ : L2.St) (ρ : PF.Env) (c : Cup) : Prop where
  at_ : At K G H σ ρ c
  trk0 : Trk G0 H0
  ext : Ext G0 H0 G H
  fresh : ∀ (i : Nat) (d : D) (a : Addr), ρ[i]? = some (some (.ow d)) → σ[i]? = some (some (.ref a)) → nh H0 a = none
  inj : ∀ (i j : Nat) (d e : D) (a : Addr), i ≠ j → ρ[i]? = some (some (.ow d)) → ρ[j]? = some (some (.ow e)) → σ[i]? = some (some (.ref a)) → σ[j]? = some (some (.ref a)) → False
  pred : P G H
/-- what stays when statements go on -/
def Keeps (P : Gh → Hp → Prop) : Prop := ∀ G H G' H', P G H → Stb G H G' H' → P G' H'
section
variable {K : PySem.W.Frag} {G0 G G1 : Gh} {H0 H H1 : Hp} {P : Gh → Hp → Prop} {σ : L2.St} {ρ : PF.Env} {c c1 : Cup}
theorem RS.go (r : RS K G0 H0 P G H σ ρ c) (hP : Keeps P) (e : Ext G H G1 H1) (t : Trk G1 H1) (q : CupR G1 H1 c1) : RS K G0 H0 P G1 H1 σ ρ c1 :=
  ⟨r.at_.stay e t q, r.trk0, r.ext.trans e, r.fresh, r.inj, hP _ _ _ _ r.pred e.stb⟩
theorem set_get {α : Type} {l : List (Option α)} {i j : Nat} {x y : α} (h : (l.set i (some x))[j]? = some (some y)) : (i = j ∧ x = y) ∨ (i ≠ j ∧ l[j]? = some (some y)) := by
  by_cases e : i = j
  · subst e
    by_cases hi : i < l.length
    · rw [List.getElem?_set_self hi] at h
      exact .inl ⟨rfl, by simpa using h⟩
    · rw [List.getElem?_eq_none (by simpa using hi)] at h; cases h
  · rw [List.getElem?_set_ne e] at h
    exact .inr ⟨e, h⟩
theorem RS.setSh (r : RS K G0 H0 P G H σ ρ c) {i : Nat} {v : V} {d : D} (h : Den K G H v d) : RS K G0 H0 P G H (σ.set i (some v)) (setS ρ i d) c where
  at_ := at_set r.at_ h
  trk0 := r.trk0
  ext := r.ext
  fresh := fun j e a h1 h2 => by
    rcases set_get h1 with ⟨_, z⟩ | ⟨z, h1⟩
    · cases z
    · rw [List.getElem?_set_ne z] at h2
      exact r.fresh j e a h1 h2
  inj := fun j k d' e a hjk h1 h2 h3 h4 => by
    rcases set_get h1 with ⟨_, z⟩ | ⟨z, h1⟩
    · cases z
    · rcases set_get h2 with ⟨_, z2⟩ | ⟨z2, h2⟩
      · cases z2
      · rw [List.getElem?_set_ne z] at h3
        rw [List.getElem?_set_ne z2] at h4
        exact r.inj j k d' e a hjk h1 h2 h3 h4
  pred := r.pred
theorem at_setW {i : Nat} {v : V} {d : D} (a : At K G H σ ρ c) (h : Own K G H v d) : At K G H (σ.set i (some v)) (setW ρ i d) c where
  sh := fun j e hj => by
    rcases set_get hj with ⟨_, z⟩ | ⟨z, hj⟩
    · cases z
    · obtain ⟨w, h1, h2⟩ := a.sh j e hj
      exact ⟨w, by rw [List.getElem?_set_ne z]; exact h1, h2⟩
  ow := fun j e hj => by
    rcases set_get hj with ⟨z1, z⟩ | ⟨z, hj'⟩
    · cases z
      subst z1
      have hi : i < ρ.length := by
        rcases Nat.lt_or_ge i ρ.length with z | z
        · exact z
        · unfold setW at hj
          rw [List.getElem?_eq_none (by simpa using z)] at hj; cases hj
      exact ⟨v, List.getElem?_set_self (by have := a.len; omega), h⟩
    · obtain ⟨w, h1, h2⟩ := a.ow j e hj'
      exact ⟨w, by rw [List.getElem?_set_ne z]; exact h1, h2⟩
  trk := a.trk
  cup := a.cup
  len := by simp [setW, a.len]
  tq := a.tq
theorem RS.setOw (r : RS K G0 H0 P G H σ ρ c) {i : Nat} {p : Addr} {d : D} (h : Own K G H (.ref p) d) (hp : nh H0 p = none) (hn : ∀ j e, ρ[j]? = some (some (.ow e)) → i ≠ j → σ[j]? ≠ some (some (.ref p))) : RS K G0 H0 P G H (σ.set i (some (.ref p))) (setW ρ i d) c where
  at_ := at_setW r.at_ h
  trk0 := r.trk0
  ext := r.ext
  fresh := fun j e a h1 h2 => by
    rcases set_get h1 with ⟨z1, z⟩ | ⟨z, h1'⟩
    · subst z1
      rcases set_get h2 with ⟨_, z3⟩ | ⟨z3, _⟩
      · cases z3; exact hp
      · exact absurd rfl z3
    · rw [List.getElem?_set_ne z] at h2
      exact r.fresh j e a h1' h2
  inj := fun j k d' e a hjk h1 h2 h3 h4 => by
    rcases set_get h1 with ⟨z1, z⟩ | ⟨z, h1'⟩
    · subst z1
      rcases set_get h2 with ⟨z2, _⟩ | ⟨z2, h2'⟩
      · exact hjk z2
      · rcases set_get h3 with ⟨_, z3⟩ | ⟨z3, _⟩
        · cases z3
          rw [List.getElem?_set_ne z2] at h4
          exact hn k e h2' z2 h4
        · exact absurd rfl z3
    · rcases set_get h2 with ⟨z1, z2⟩ | ⟨z2, h2'⟩
      · subst z1
        rcases set_get h4 with ⟨_, z3⟩ | ⟨z3, _⟩
        · cases z3
          rw [List.getElem?_set_ne z] at h3
          exact hn j d' h1' z h3
        · exact absurd rfl z3
      · rw [List.getElem?_set_ne z] at h3
        rw [List.getElem?_set_ne z2] at h4
        exact r.inj j k d' e a hjk h1' h2' h3 h4
  pred := r.pred
theorem Tb.own {T : List (Addr × Str)} {a : Addr} {d : D} {o : HO} (h : Own K G H (.ref a) d) (t : Tb T H) (k : nt o) : Tb T (L2.upd H a o) := by
  cases d with
  | lst ds =>
    obtain ⟨b, vs, eb, _, h1, _⟩ := h
    cases eb
    exact t.upd h1 k
  | dct kvs =>
    obtain ⟨b, eb, _, ob, es, ep, h1, _, h2, _⟩ := h
    cases eb
    exact t.ext' ⟨es, ep, h2⟩ h1 k
  | _ => exact h.elim
/-- an owned slot's thing is changed -/
theorem RS.mutO (r : RS K G0 H0 P G H σ ρ c) (hP : Keeps P) {i : Nat} {d d' : D} (hi : ρ[i]? = some (some (.ow d))) {a : Addr} {o : HO} (hs : σ[i]? = some (some (.ref a))) (hB : G.B a) (k : nt o) (ho : Own K G (upd H a o) (.ref a) d') :
    RS K G0 H0 P G (upd H a o) σ (setW ρ i d') c := by
  have ng : G.g ≠ some a := r.at_.trk.apart a hB
  have h0 : nh H0 a = none := r.fresh i _ a hi hs
  have hw : Own K G H (.ref a) d := by
    obtain ⟨v, h1, h2⟩ := r.at_.ow i _ hi
    rw [hs] at h1; cases h1
    exact h2
  have st : Stb G H G (upd H a o) := ⟨fun b u h _ n => by rw [upd_ne (fun z => n (by rw [z]; exact .inl hB))]; exact h, fun b h => .inl h, fun b h => h, live_upd k⟩
  have iL : i < ρ.length := by
    rcases Nat.lt_or_ge i ρ.length with z | z
    · exact z
    · rw [List.getElem?_eq_none z] at hi; cases hi
  refine ⟨⟨fun j d hj => ?_, fun j d hj => ?_, ⟨fun b hb z => ?_, r.at_.trk.apart, Tb.own hw r.at_.trk.tb k⟩, ?_, by simp [setW, r.at_.len], r.at_.tq⟩, r.trk0, ⟨fun b u h kk n => ?_, r.ext.cup, r.ext.new, r.ext.sub, r.ext.add, fun b n z => ?_, r.ext.tt⟩, fun j d b h1 h2 => ?_, fun j kk d e b hjk h1 h2 h3 h4 => ?_, hP _ _ _ _ r.pred st⟩
  · rcases set_get hj with ⟨_, z⟩ | ⟨z, hj⟩
    · cases z
    · obtain ⟨w, h1, h2⟩ := r.at_.sh j d hj
      exact ⟨w, h1, Den.stay st _ _ h2⟩
  · rcases set_get hj with ⟨z1, z⟩ | ⟨z, hj⟩
    · cases z
      subst z1
      exact ⟨.ref a, hs, ho⟩
    · obtain ⟨w, h1, h2⟩ := r.at_.ow j d hj
      refine ⟨w, h1, h2.stb st (fun _ _ h => h) fun b eb => upd_ne fun e => r.inj i j _ _ a z hi hj hs (by rw [h1, eb, e])⟩
  · exact live_upd k b (r.at_.trk.there b hb) z
  · have q := r.at_.cup
    cases c with
    | none => exact q
    | some pr =>
      obtain ⟨b, g1, g2⟩ := q
      exact ⟨b, g1, by rw [upd_ne (fun z => ng (by rw [← z]; exact g1))]; exact g2⟩
  · rw [upd_ne (nh_ne h kk h0)]
    exact r.ext.keep b u h kk n
  · exact live_upd k b (r.ext.live b n) z
  · rcases set_get h1 with ⟨z1, _⟩ | ⟨z, h1⟩
    · subst z1
      rw [hs] at h2; cases h2; exact h0
    · exact r.fresh j d b h1 h2
  · rcases set_get h1 with ⟨z1, _⟩ | ⟨z, h1⟩
    · subst z1
      rcases set_get h2 with ⟨z2, _⟩ | ⟨z2, h2⟩
      · exact hjk z2
      · exact r.inj _ _ _ _ b hjk hi h2 h3 h4
    · rcases set_get h2 with ⟨z2, _⟩ | ⟨z2, h2⟩
      · subst z2
        exact r.inj _ _ _ _ b hjk h1 hi h3 h4
      · exact r.inj _ _ _ _ b hjk h1 h2 h3 h4
/-- an owned slot's list is changed -/
theorem RS.mut (r : RS K G0 H0 P G H σ ρ c) (hP : Keeps P) {i : Nat} {xs ys : List D} (hi : ρ[i]? = some (some (.ow (.lst xs)))) {a : Addr} {us : List V} (hs : σ[i]? = some (some (.ref a))) (hB : G.B a) (hd : DenL K G H us ys) :
    RS K G0 H0 P G (upd H a (.lst us)) σ (setW ρ i (.lst ys)) c := by
  have st : Stb G H G (upd H a (.lst us)) := ⟨fun b u h _ n => by rw [upd_ne (fun z => n (by rw [z]; exact .inl hB))]; exact h, fun b h => .inl h, fun b h => h, live_upd (by exact True.intro)⟩
  exact r.mutO hP hi hs hB True.intro ⟨a, us, rfl, hB, upd_same, hd.stay st⟩
/-- an owned slot is given away -/
theorem RS.give (r : RS K G0 H0 P G H σ ρ c) (hP : Keeps P) {i : Nat} {d : D} (hi : ρ[i]? = some (some (.ow d))) : ∃ G', RS K G0 H0 P G' H σ (setS ρ i d) c := by
  obtain ⟨v, hs, ho⟩ := r.at_.ow i d hi
  obtain ⟨a, rfl, hB, _⟩ := ho.ref
  have h0 : nh H0 a = none := r.fresh i _ a hi hs
  have ng : G.g ≠ some a := r.at_.trk.apart a hB
  have st : Stb G H ⟨G.g, fun b => G.B b ∧ b ≠ a, G.T⟩ H := ⟨fun b o h _ n => h, fun b h => by
    rcases h with h | h
    · exact .inl (.inl h.1)
    · exact .inl (.inr h), fun b h => h, fun b h => h⟩
  have iL : i < ρ.length := by
    rcases Nat.lt_or_ge i ρ.length with z | z
    · exact z
    · rw [List.getElem?_eq_none z] at hi; cases hi
  refine ⟨⟨G.g, fun b => G.B b ∧ b ≠ a, G.T⟩, ⟨fun j d hj => ?_, fun j d hj => ?_, ⟨fun b hb => r.at_.trk.there b hb.1, fun b hb => r.at_.trk.apart b hb.1, r.at_.trk.tb⟩, r.at_.cup, by simp [setS, r.at_.len], r.at_.tq⟩, r.trk0,
    ⟨r.ext.keep, r.ext.cup, r.ext.new, fun b h => ⟨r.ext.sub b h, fun z => r.trk0.there b h (by rw [z]; exact h0)⟩, fun b h => r.ext.add b h.1, r.ext.live, r.ext.tt⟩, fun j d b h1 h2 => ?_, fun j k d e b hjk h1 h2 h3 h4 => ?_, hP _ _ _ _ r.pred st⟩
  · rcases set_get hj with ⟨z1, z⟩ | ⟨z, hj⟩
    · cases z
      subst z1
      refine ⟨.ref a, hs, ho.den st (fun b eb _ z => ?_) fun _ _ => rfl⟩
      cases eb
      rcases z with z | z
      · exact z.2 rfl
      · exact ng z
    · obtain ⟨w, h1, h2⟩ := r.at_.sh j d hj
      exact ⟨w, h1, Den.stay st _ _ h2⟩
  · rcases set_get hj with ⟨_, z⟩ | ⟨z, hj⟩
    · cases z
    · obtain ⟨w, h1, h2⟩ := r.at_.ow j d hj
      exact ⟨w, h1, h2.stb st (fun b eb hb => ⟨hb, fun e => r.inj i j _ _ a z hi hj hs (by rw [h1, eb, e])⟩) fun _ _ => rfl⟩
  · rcases set_get h1 with ⟨_, z⟩ | ⟨z, h1⟩
    · cases z
    · exact r.fresh j d b h1 h2
  · rcases set_get h1 with ⟨_, z⟩ | ⟨z, h1⟩
    · cases z
    · rcases set_get h2 with ⟨_, z2⟩ | ⟨z2, h2⟩
      · cases z2
      · exact r.inj j k d e b hjk h1 h2 h3 h4
end

/-! ### statements -/
section
variable (X : Cx) (W : WX)
def PostS (G0 : Gh) (H0 : Hp) (P : Gh → Hp → Prop) (r : Res Out) (D : Ends) : Prop := match r with
  | .ok (.nx ρ) c => ∀ σ H G, RS X.K G0 H0 P G H σ ρ c → D.nx σ H
  | .ok (.bk ρ) c => ∀ σ H G, RS X.K G0 H0 P G H σ ρ c → D.bk σ H
  | .ok (.ct ρ) c => ∀ σ H G, RS X.K G0 H0 P G H σ ρ c → D.ct σ H
  | .ok (.rt d) c => ∀ v H G, Ext G0 H0 G H → Trk G H → CupR G H c → Den X.K G H v d → D.rt v H
  | .exc k c => ∀ cv dx σ H G, Ext G0 H0 G H → Trk G H → CupR G H c → IsK X k cv dx → W cv dx σ H
  | .stuck => False
def SS (st : Stmt) (m : PF.Env → M Out) : Prop := ∃ t, PS X st t ∧ ∀ σ H G ρ c D G0 H0 P, Keeps P → RS X.K G0 H0 P G H σ ρ c → PostS X W G0 H0 P (m ρ c) D → t D σ H
def SSs (sts : List Stmt) (m : PF.Env → M Out) : Prop := ∃ t, PSs X sts t ∧ ∀ σ H G ρ c D G0 H0 P, Keeps P → RS X.K G0 H0 P G H σ ρ c → PostS X W G0 H0 P (m ρ c) D → t D σ H
end
section
variable {X : Cx} {W : WX} {G0 G : Gh} {H0 H : Hp} {P : Gh → Hp → Prop} {σ : L2.St} {ρ : PF.Env} {c : Cup}
/-- an expression within a statement -/
theorem PostS.bind {α ω : Type} {R : Gh → Hp → ω → α → Prop} {m : M α} {f : α → M Out} {D : Ends} {Q : ω → Hp → Prop} (r : RS X.K G0 H0 P G H σ ρ c) (hP : Keeps P) (p : PostS X W G0 H0 P (M.bind m f c) D)
    (h : ∀ d c1 v H1 G1, Ext G H G1 H1 → RS X.K G0 H0 P G1 H1 σ ρ c1 → R G1 H1 v d → PostS X W G0 H0 P (f d c1) D → Q v H1) : Post X W σ R G H (m c) Q := by
  unfold M.bind at p
  cases e : m c with
  | ok d c1 =>
    rw [e] at p
    exact fun v H1 G1 e1 t1 q1 r1 => h d c1 v H1 G1 e1 (r.go hP e1 t1 q1) r1 p
  | exc k c1 =>
    rw [e] at p
    exact fun cv dx H' G' e' t' q' hk => p cv dx σ H' G' (r.ext.trans e') t' q' hk
  | stuck =>
    rw [e] at p
    exact p
theorem PostS.lift {α : Type} {o : Option α} {f : α → M Out} {D : Ends} (p : PostS X W G0 H0 P (M.bind (M.lift o) f c) D) : ∃ a, o = some a ∧ PostS X W G0 H0 P (f a c) D := by
  cases o with
  | none => exact p.elim
  | some a => exact ⟨a, rfl, p⟩
end
end PF
end

/-! ## PfS14 -/
section
/-! PfS14: new lists that a slot owns; statements, one by one. -/
set_option linter.all false
set_option autoImplicit false
namespace PF
open PySem L2
/-- the value is a new list that may be changed -/
def OwnR (K : PySem.W.Frag) (Hs : Hp) : Gh → Hp → V → D → Prop := fun G' H' v d => Own K G' H' v d ∧ ∃ p, v = .ref p ∧ nh Hs p = none
def SF (X : Cx) (W : WX) (e : Expr) (m : PF.Env → M D) : Prop := ∃ t, PE X e t ∧ ∀ σ H G ρ c Q, At X.K G H σ ρ c → Post X W σ (OwnR X.K H) G H (m ρ c) Q → t σ H Q
section
variable {K : PySem.W.Frag} {G0 G : Gh} {Hs H : Hp} {c : Cup} {Q : VK}
theorem own_new {ds : List D} {vs : List V} (e : Ext G0 Hs G H) (k : ∀ v H' G', Ext G H G' H' → Trk G' H' → CupR G' H' c → OwnR K Hs G' H' v (.lst ds) → Q v H') (t : Trk G H) (q : CupR G H c) (h : DenL K G H vs ds) :
    ∀ p, H p = none → Q (.ref p) (upd H p (.lst vs)) := fun p hp => by
  have em : Ext G H G (upd H p (.lst vs)) := Ext.made hp
  have ex : Ext G H ⟨G.g, fun a => G.B a ∨ a = p, G.T⟩ (upd H p (.lst vs)) := ⟨em.keep, em.cup, em.new, fun a h => .inl h, fun a h => by
    rcases h with h | h
    · exact .inl h
    · exact .inr (by rw [h]; exact nh_none hp), em.live, rfl⟩
  refine k _ _ _ ex ⟨fun a h z => ?_, fun a h z => ?_, t.tb.made hp True.intro⟩ (q.made hp) ⟨⟨p, vs, rfl, .inr rfl, upd_same, h.stay ex.stb⟩, p, rfl, e.back (nh_none hp)⟩
  · rcases h with h | h
    · exact live_upd (by exact True.intro) a (t.there a h) z
    · rw [h] at z; exact nh_no upd_same (by exact True.intro) z
  · rcases h with h | h
    · exact t.apart a h z
    · subst h; exact q.there z (nh_none hp)
end
def freshE : Ex → Bool
  | .lst _ => true
  | .dnil => true
  | .done _ _ => true
  | .blt .dict _ => true
  | .blt .list _ => true
  | .trg1 false _ => true
  | .trg2 false _ _ => true
  | .bin .add _ _ => true
  | _ => false
section
variable {X : Cx} {W : WX} {sc : Scope}
theorem sf_lst {xs : List Expr} {ms : PF.Env → M (List D)} {pos : Pos} (hl : ∀ ρ c c' ds, ms ρ c = .ok ds c' → ds.length ≤ 1000) (ha : SA X W xs ms) : SF X W (.List xs pos) fun ρ => M.bind (ms ρ) fun ds => M.pure (.lst ds) := by
  obtain ⟨ta, a1, a2⟩ := ha
  refine ⟨_, pe_lst a1, fun σ H G ρ c Q at0 p => ?_⟩
  refine a2 σ H G ρ c _ at0 (p.bindE fun ds c1 e vs H1 G1 e1 t1 q1 r1 p1 => ?_)
  exact ⟨by rw [r1.length]; exact line1000 (hl _ _ _ _ e), own_new (c := c1) e1 p1 t1 q1 r1⟩
theorem sf_list {e : Expr} {es : List Expr} {ms : PF.Env → M (List D)} {p pos : Pos} (hc : X.calm = true) (hg : Gl X "list") (hm : X.mg "list" = none) (hn : (e :: es).all nstar = true) (ha : SAB X W (e :: es) ms) :
    SF X W (.Call (.Name "list" p) (e :: es) [] pos) fun ρ => M.bind (ms ρ) fun ds => M.lift (opF .list ds) := by
  obtain ⟨ta, a1, a2⟩ := ha
  rw [List.all_cons, Bool.and_eq_true] at hn
  refine ⟨_, pe_callTy (or_l call_list_of (cr_listD hc)) hg hm PyProof.Rows.boot_list a1 (by decide) (by decide) (star_cons hn.1) (back_plain hn.2), fun σ H G ρ c Q at0 p => ?_⟩
  refine a2 σ H G ρ c _ at0 (p.bind fun ds c1 vs H1 G1 e1 t1 q1 r1 p1 => ?_)
  obtain ⟨z, ez, k⟩ := p1.lift1
  unfold opF at ez
  split at ez <;> (first | (rename_i ee; cases ee) | skip) <;> (try simp only [reduceCtorEq, Option.some.injEq] at ez)
  · subst ez
    obtain ⟨v, rfl, a, us, rfl, na, h1, h2⟩ := bor1 r1
    exact .inl ⟨a, us, rfl, .inl (.of h1), own_new e1 k t1 q1 h2⟩
  · subst ez
    obtain ⟨v, rfl, a, us, o1, rfl, na, h1, d1, h2⟩ := bor1 r1
    exact .inl ⟨a, us, rfl, .inr (sqT h1), own_new e1 k t1 q1 h2⟩
  · subst ez
    obtain ⟨v, rfl, a, rfl, h1⟩ := bor1 r1
    refine .inl ⟨a, _, rfl, .inl ?_, own_new e1 k t1 q1 (DenL.ofInts _)⟩
    rcases h1 with ⟨o, _, _, h1, h2⟩ | h1
    · exact h2 H1 h1
    · exact h1 H1
  · split at ez
    · cases ez
      obtain ⟨v, rfl, a, rfl, na, dat⟩ := bor1 r1
      obtain ⟨bs, b1, b2, b3⟩ := dat.keysD
      exact .inr ⟨a, bs, rfl, b1, own_new e1 k t1 q1 (by rw [← b2]; exact den_G b3)⟩
    · cases ez
theorem sf_trg1 {a : Expr} {ma : PF.Env → M D} {p p2 pos pos2 : Pos} (hc : X.calm = true) (hg : Gl X "list") (hm : X.mg "list" = none) (hg2 : Gl X "range") (hm2 : X.mg "range" = none) (na : nstar a = true) (ha : SE X W a ma) :
    SF X W (.Call (.Name "list" p) [.Call (.Name "range" p2) [a] [] pos2] [] pos) fun ρ => M.bind (ma ρ) fun x => M.bind (M.lift (asInt x)) fun i => if rngOk 0 i then M.pure (.lst (rangeD 0 i)) else M.stuck := by
  obtain ⟨ta, a1, a2⟩ := ha
  have pr := prg_1 (p := p2) (pos := pos2) hg2 hm2 a1 (star_cons na)
  refine ⟨_, pe_listRg hc hg hm pr rfl, fun σ H G ρ c Q at0 p => ?_⟩
  refine a2 σ H G ρ c _ at0 (p.bind fun x c1 v H1 G1 e1 t1 q1 r1 p1 => ?_)
  obtain ⟨i, ei, p2⟩ := p1.lift
  cases x <;> simp [asInt] at ei
  subst ei
  cases show v = .int _ from r1
  split at p2
  · rename_i hr
    exact ⟨_, rfl, rg_ok hr, own_new (c := c1) e1 p2 t1 q1 (DenL.range _ _)⟩
  · exact p2.elim
theorem sf_trg2 {a b : Expr} {ma mb : PF.Env → M D} {p p2 pos pos2 : Pos} (hc : X.calm = true) (hg : Gl X "list") (hm : X.mg "list" = none) (hg2 : Gl X "range") (hm2 : X.mg "range" = none) (na : nstar a = true) (nb : nstar b = true) (ha : SE X W a ma) (hb : SE X W b mb) :
    SF X W (.Call (.Name "list" p) [.Call (.Name "range" p2) [a, b] [] pos2] [] pos) fun ρ => M.bind (ma ρ) fun x => M.bind (mb ρ) fun y => M.bind (M.lift (asInt x)) fun i => M.bind (M.lift (asInt y)) fun j => if rngOk i j then M.pure (.lst (rangeD i j)) else M.stuck := by
  obtain ⟨ta, a1, a2⟩ := ha
  obtain ⟨tb, b1, b2⟩ := hb
  have pr := prg_2 (p := p2) (pos := pos2) hg2 hm2 a1 b1 (star_cons na) (star_cons nb) (by rw [star_cons nb]; rfl)
  refine ⟨_, pe_listRg hc hg hm pr rfl, fun σ H G ρ c Q at0 p => ?_⟩
  refine a2 σ H G ρ c _ at0 (p.bind fun x c1 v H1 G1 e1 t1 q1 r1 p1 => ?_)
  refine b2 σ H1 G1 ρ c1 _ (at0.stay e1 t1 q1) (p1.bind fun y c2 u H2 G2 e2 t2 q2 r2 p2 => ?_)
  obtain ⟨i, ei, p3⟩ := p2.lift
  obtain ⟨j, ej, p4⟩ := p3.lift
  cases x <;> simp [asInt] at ei
  cases y <;> simp [asInt] at ej
  subst ei ej
  cases show v = .int _ from r1
  cases show u = .int _ from r2
  split at p4
  · rename_i hr
    exact ⟨_, _, rfl, rfl, rg_ok hr, own_new (c := c2) (e1.trans e2) p4 t2 q2 (DenL.range _ _)⟩
  · exact p4.elim
theorem sf_add {a b : Expr} {ma mb : PF.Env → M D} {pos : Pos} (ha : SB X W a ma) (hb : SB X W b mb) :
    ∃ t, PE X (.BinOp a .Add b pos) t ∧ ∀ σ H G ρ c (Q : VK), At X.K G H σ ρ c →
      Post X W σ (OwnR X.K H) G H (M.bind (M.bind (ma ρ) fun x => M.bind (mb ρ) fun y => M.lift (opB .add x y)) (fun d => M.lift (asOwn d)) c) Q → t σ H Q := by
  obtain ⟨ta, a1, a2⟩ := ha
  obtain ⟨tb, b1, b2⟩ := hb
  refine ⟨_, pe_op op_cat a1 b1, fun σ H G ρ c Q at0 p => ?_⟩
  simp only [M.bind_assoc] at p
  refine a2 σ H G ρ c _ at0 (p.bind fun x c1 v H1 G1 e1 t1 q1 r1 p1 => ?_)
  refine b2 σ H1 G1 ρ c1 _ (at0.stay e1 t1 q1) (p1.bind fun y c2 u H2 G2 e2 t2 q2 r2 p2 => ?_)
  obtain ⟨z, ez, p3⟩ := p2.lift
  obtain ⟨ds, ed, p4⟩ := p3.lift1
  have r1' := Bor.stay e2 r1
  cases x <;> cases y <;> simp only [opB, reduceCtorEq, Option.some.injEq] at ez
  · subst ez; cases ed
  · split at ez
    · cases ez; cases ed
    · cases ez
  · split at ez
    · rename_i xs ys hs
      cases ez
      cases ed
      obtain ⟨a, vs, rfl, na, h1, h2⟩ := r1'
      obtain ⟨b, us, rfl, nb, g1, g2⟩ := r2
      exact ⟨a, b, vs, us, rfl, rfl, h1, g1, by rw [h2.length, g2.length]; exact small_line hs, own_new (c := c2) (e1.trans e2) p4 t2 q2 (h2.app g2)⟩
    · cases ez
/-- what a slot is to own -/
def SFo (X : Cx) (W : WX) (e : Expr) (m : PF.Env → M D) : Prop := ∃ t, PE X e t ∧ ∀ σ H G ρ c (Q : VK), At X.K G H σ ρ c → Post X W σ (OwnR X.K H) G H (M.bind (m ρ) (fun d => M.lift (asOwn d)) c) Q → t σ H Q
theorem asLst_some {d : D} {ds : List D} (h : asLst d = some ds) : d = .lst ds := by
  cases d <;> simp [asLst] at h
  rw [h]
theorem asDct_some {d : D} {ds : List (D × D)} (h : asDct d = some ds) : d = .dct ds := by
  cases d <;> simp [asDct] at h
  rw [h]
theorem asOwn_some {d e : D} (h : asOwn d = some e) : e = d := by
  cases d <;> simp [asOwn] at h <;> exact h.symm
theorem SF.o {e : Expr} {m : PF.Env → M D} (h : SF X W e m) : SFo X W e m := by
  obtain ⟨t, h1, h2⟩ := h
  refine ⟨t, h1, fun σ H G ρ c Q at0 p => h2 σ H G ρ c Q at0 (p.bind fun d c1 v H1 G1 e1 t1 q1 r1 p1 => ?_)⟩
  obtain ⟨ds, ed, p2⟩ := p1.lift1
  cases asOwn_some ed
  exact p2 v H1 G1 (Ext.refl _ _) t1 q1 r1
theorem sf_dnil {pos : Pos} : SF X W (.Dict [] [] pos) fun _ => M.pure (.dct []) := by
  refine ⟨_, pe_dnil, fun σ H G ρ c Q at0 p => ?_⟩
  intro a hn hs
  exact p (.ref a) _ (ghM G a) (Ext.mark hn True.intro) (at0.trk.mark at0.cup hn True.intro) (at0.cup.mark hn) ⟨⟨a, rfl, .inr rfl, dctAt_of (kvs := []) upd_same IsEs.nil hs (by simp) (by simp) True.intro⟩, a, rfl, nh_none hn⟩
theorem sf_done (hu : X.A.units + 65 < cLine) {a b : Expr} {ma mb : PF.Env → M D} {pos : Pos} (ha : SE X W a ma) (hb : SE X W b mb) :
    SF X W (.Dict [some a] [b] pos) fun ρ => M.bind (ma ρ) fun x => M.bind (mb ρ) fun y => M.lift (dOne x y) := by
  obtain ⟨ta, a1, a2⟩ := ha
  obtain ⟨tb, b1, b2⟩ := hb
  refine ⟨_, pe_done hu a1 b1, fun σ H G ρ c Q at0 p => ?_⟩
  intro q hn hs
  have e0 : Ext G H (ghM G q) (upd H q (dO q emptyO)) := Ext.mark hn True.intro
  refine a2 σ _ (ghM G q) ρ c _ (at0.stay e0 (at0.trk.mark at0.cup hn True.intro) (at0.cup.mark hn)) (p.bind0 e0 fun x c1 v H1 G1 e1 t1 q1 r1 p1 => ?_)
  refine b2 σ H1 G1 ρ c1 _ (at0.stay (e0.trans e1) t1 q1) (p1.bind0 (e0.trans e1) fun y c2 u H2 G2 e2 t2 q2 r2 p2 => ?_)
  obtain ⟨z, ez, k⟩ := p2.lift1
  unfold dOne at ez
  rw [Option.map_eq_some_iff] at ez
  obtain ⟨kk, hk, rfl⟩ := ez
  have e12 := e1.trans e2
  have hB : G2.B q := e12.sub q (.inr rfl)
  have hq2 : H2 q = some (dO q emptyO) := e12.keep q _ upd_same True.intro (fun z => at0.cup.there z (nh_none hn))
  have r1' := Den.stay e2.stb _ _ r1
  refine ⟨hq2, kk, r1'.isKey hk, fun o bb uu rb ie ru => ?_⟩
  have st : Stb G2 H2 G2 (upd H2 q (dO q o)) := Stb.wr hB True.intro
  refine k (.ref q) _ G2 ((e0.trans e12).wr (nh_none hn) True.intro) (t2.wr empty_dct hq2 True.intro) (q2.wr hq2) ⟨⟨q, rfl, hB, ?_⟩, q, rfl, nh_none hn⟩
  exact dctAt_of (kvs := [(x, y)]) upd_same ie hs (by simp) (by simp) ⟨⟨hk, ⟨v, rb, Den.stay st _ _ r1'⟩, u, ru, Den.stay st _ _ r2⟩, True.intro⟩
theorem sf_dict {e : Expr} {es : List Expr} {ms : PF.Env → M (List D)} {p pos : Pos} (hc : X.calm = true) (hu : X.A.units + 65 < cLine) (hg : Gl X "dict") (hm : X.mg "dict" = none) (hn : (e :: es).all nstar = true) (ha : SAB X W (e :: es) ms) :
    SF X W (.Call (.Name "dict" p) (e :: es) [] pos) fun ρ => M.bind (ms ρ) fun ds => M.lift (opF .dict ds) := by
  obtain ⟨ta, a1, a2⟩ := ha
  rw [List.all_cons, Bool.and_eq_true] at hn
  refine ⟨_, pe_callTy (cr_dictL hc hu) hg hm (bboot .dict) a1 (by decide) (by decide) (star_cons hn.1) (back_plain hn.2), fun σ H G ρ c Q at0 p => ?_⟩
  refine a2 σ H G ρ c _ at0 (p.bind fun ds c1 vs H1 G1 e1 t q r1 p1 => ?_)
  obtain ⟨z, ez, k⟩ := p1.lift1
  have fin : ∀ {l : Addr} {us : List V} {ds : List D} {kvs : List (D × D)}, small ds.length = true → dFold [] ds = some kvs → DenL X.K G1 H1 us ds → z = .dct kvs → (SqL X.K H1 l us ∨ ∃ o, H1 l = some (.frz o (.tup us)) ∧ o.dict = none) → rDictL X [.ref l] H1 Q := by
    intro l us ds kvs hsm e h2 ez hq
    subst ez
    have hsm' := of_decide_eq_true hsm
    obtain ⟨es, hp, hu2⟩ := prel_of _ us [] kvs h2 e
    refine ⟨l, es, rfl, by rw [← hu2]; exact hq, hp.all, by rw [hp.length]; exact hsm', fun p ob ys hn hs rx ie nd => ?_⟩
    have e0 : Ext G1 H1 (ghM G1 p) (upd H1 p (dO p ob)) := Ext.mark hn True.intro
    have hp' := hp.stay e0.stb (fun b o u e => by rw [upd_ne (ne_of_none e hn)]; exact e)
    have hl := dFold_len _ [] kvs e
    exact k (.ref p) _ (ghM G1 p) e0 (t.mark q hn True.intro) (q.mark hn) ⟨⟨p, rfl, .inr rfl, dctAt_of upd_same ie hs nd (by simp at hl; omega) (PRel.rx es _ ys [] [] kvs hp' rx True.intro e)⟩, p, rfl, e1.back (nh_none hn)⟩
  unfold opF at ez
  split at ez <;> (first | (rename_i ee; cases ee) | skip) <;> (try simp only [reduceCtorEq] at ez)
  · split at ez
    · rename_i hsm
      rw [Option.map_eq_some_iff] at ez
      obtain ⟨kvs, e, ez⟩ := ez
      obtain ⟨v, rfl, a, us, rfl, na, h1, h2⟩ := bor1 r1
      exact fin hsm e h2 ez.symm (.inl (.of h1))
    · cases ez
  · split at ez
    · rename_i hsm
      rw [Option.map_eq_some_iff] at ez
      obtain ⟨kvs, e, ez⟩ := ez
      obtain ⟨v, rfl, a, us, o, rfl, na, h1, hd, h2⟩ := bor1 r1
      exact fin hsm e h2 ez.symm (.inr ⟨o, h1, hd⟩)
    · cases ez
theorem sndF {T : Tab} {N : List Str} {kin : Nat → Str → Option Str} {Φ : Orc} (ir : Ex) (e : Expr) (g : Good kin T Φ X W) (hN : X.N = N) (hs : X.env.scope = sc) (hf : freshE ir = true) (h : chkE T N sc ir e = true) : SFo X W e (evE kin Φ ir) := by
  cases ir with
  | lst es =>
    simp only [chkE, chkP, dflC] at h
    split at h
    · simp only [Bool.and_eq_true, decide_eq_true_eq] at h
      exact (sf_lst (len_of h.1 h.2) (sndA es _ X W sc _ g hN hs h.2)).o
    · cases h
  | blt b es =>
    cases b with
    | list =>
      simp only [chkE, chkP, dflC] at h
      split at h
      · simp only [Bool.and_eq_true, decide_eq_true_eq] at h
        obtain ⟨⟨h1, h2⟩, h3⟩ := h
        subst h1
        obtain ⟨b1, b2⟩ := blt_none g hs h2
        exact (sf_list g.calm b1 b2 (chkB_star h3) (sndAB es _ X W sc _ g hN hs h3)).o
      · cases h
    | dict =>
      simp only [chkE, chkP, dflC] at h
      split at h
      · simp only [Bool.and_eq_true, decide_eq_true_eq] at h
        obtain ⟨⟨h1, h2⟩, h3⟩ := h
        subst h1
        obtain ⟨b1, b2⟩ := blt_none g hs h2
        exact (sf_dict g.calm g.units b1 b2 (chkB_star h3) (sndAB es _ X W sc _ g hN hs h3)).o
      · cases h
    | _ => cases hf
  | dnil =>
    simp only [chkE, chkP, dflC] at h
    split at h
    · exact sf_dnil.o
    · cases h
  | done a b =>
    simp only [chkE, chkP, dflC] at h
    split at h
    · simp only [Bool.and_eq_true] at h
      exact (sf_done g.units (sndE a X W sc _ g hN hs h.1) (sndE b X W sc _ g hN hs h.2)).o
    · cases h
  | trg1 t a =>
    cases t with
    | true => cases hf
    | false =>
      simp only [chkE, chkP, dflC] at h
      split at h
      · simp only [Bool.and_eq_true, decide_eq_true_eq] at h
        obtain ⟨⟨⟨⟨⟨h1, h2⟩, h3⟩, h4⟩, h5⟩, h6⟩ := h
        subst h1 h3
        obtain ⟨b1, b2⟩ := blt_none g hs h2
        obtain ⟨b3, b4⟩ := blt_none g hs h4
        exact (sf_trg1 g.calm b1 b2 b3 b4 h6 (sndE a X W sc _ g hN hs h5)).o
      · cases h
  | trg2 t a b =>
    cases t with
    | true => cases hf
    | false =>
      simp only [chkE, chkP, dflC] at h
      split at h
      · simp only [Bool.and_eq_true, decide_eq_true_eq] at h
        obtain ⟨⟨⟨⟨⟨⟨⟨h1, h2⟩, h3⟩, h4⟩, h5⟩, h6⟩, h7⟩, h8⟩ := h
        subst h1 h3
        obtain ⟨b1, b2⟩ := blt_none g hs h2
        obtain ⟨b3, b4⟩ := blt_none g hs h4
        exact (sf_trg2 g.calm b1 b2 b3 b4 h7 h8 (sndE a X W sc _ g hN hs h5) (sndE b X W sc _ g hN hs h6)).o
      · cases h
  | bin op a b =>
    cases op with
    | add =>
      simp only [chkE, chkP, dflC] at h
      split at h
      · simp only [Bool.and_eq_true, decide_eq_true_eq] at h
        obtain ⟨⟨h1, h2⟩, h3⟩ := h
        subst h1
        exact sf_add (sb_bor hN hs h2 (sndE a X W sc _ g hN hs h2)) (sb_bor hN hs h3 (sndE b X W sc _ g hN hs h3))
      · cases h
    | _ => cases hf
  | _ => cases hf
end
end PF
end

/-! ## PfS15 -/
section
/-! PfS15: statements. -/
set_option linter.all false
set_option autoImplicit false
namespace PF
open PySem L2

/-! ### which stores the text's pairs make -/
def isStar : Expr → Bool
  | .Starred .. => true
  | _ => false
def swN (sc : Scope) (ts : List Expr) : List Str := ts.filterMap fun
    | .Name id pos => if sc.names.lookup id == some .local && pos.line == (ts.head?.map (·.pos.line)).getD 0 then some id else none
    | _ => none
def swO (sc : Scope) (ts vs : List Expr) : Option (Option (List Str)) :=
  if (!(ts.length == 2 || ts.length == 3) || vs.length != ts.length) = true then some none else
  if (vs.any isStar) = true then some none else
  if ((swN sc ts).length != ts.length || (swN sc ts).eraseDups.length != (swN sc ts).length) = true then some none else
  if (vs.all (foldedForSure 8)) = true then some none else
  if (vs.all (constantsAlone 8)) = true then none else some (some (swN sc ts))
theorem sw_of {env : PySem.Env} {sc : Scope} {ts vs : List Expr} {k k2 : Nat} {p p2 : Pos} {r : Option (List Str)} (hs : env.scope = sc) (hk : sc.kind = .function) (h : swO sc ts vs = some r) : swappedStores [.Tuple ts k p] (.Tuple vs k2 p2) env = pure r := by
  have hb : env.blockKind = .function := by unfold Env.blockKind; rw [hs, hk]; rfl
  have hkk : ∀ x, env.kindOf x = sc.names.lookup x := fun x => by unfold Env.kindOf; rw [hs]
  unfold swO at h
  unfold swappedStores
  simp only [hb, hkk]
  show (if (!(ts.length == 2 || ts.length == 3) || vs.length != ts.length || ScopeKind.function != ScopeKind.function) = true then pure none else
    if (vs.any isStar) = true then pure none else
    if ((swN sc ts).length != ts.length || (swN sc ts).eraseDups.length != (swN sc ts).length) = true then pure none else
    if (vs.all (foldedForSure 8)) = true then pure none else
    if (vs.all (constantsAlone 8)) = true then _ else pure (some (swN sc ts))) = pure r
  have h0 : (ScopeKind.function != ScopeKind.function) = false := by decide
  rw [h0, Bool.or_false]
  split at h
  · rename_i c
    rw [if_pos c]; cases h; rfl
  rename_i c
  rw [if_neg c]
  split at h
  · rename_i c
    rw [if_pos c]; cases h; rfl
  rename_i c
  rw [if_neg c]
  split at h
  · rename_i c
    rw [if_pos c]; cases h; rfl
  rename_i c
  rw [if_neg c]
  split at h
  · rename_i c
    rw [if_pos c]; cases h; rfl
  rename_i c
  rw [if_neg c]
  split at h
  · cases h
  rename_i c
  rw [if_neg c]
  cases h; rfl
end PF
end

/-! ## PfS16 -/
section
/-! PfS16: the look at statements; each is as the evaluator says. -/
set_option linter.all false
set_option autoImplicit false
namespace PF
open PySem L2
/-! ### the look -/
def isLc : Ex → Bool
  | .lc _ _ _ => true
  | .lcif _ _ _ _ => true
  | _ => false
/-- a comprehension that is stored on the way out -/
def swapB (sc : Scope) (x : Str) (px : Pos) (v : Expr) : Bool := match v with
  | .ListComp _ _ s p => (sc.names.lookup x == some .local) && (px.line == p.line) && !(s.names.any fun (n, k) => n == x && (k == .local || k == .cell))
  | .SetComp _ _ _ _ => true
  | .DictComp _ _ _ _ _ => true
  | _ => false
def nComp : Expr → Bool
  | .ListComp _ _ _ _ => false
  | .SetComp _ _ _ _ => false
  | .DictComp _ _ _ _ _ => false
  | _ => true
def notTup : Expr → Bool
  | .Tuple _ _ _ => false
  | _ => true
def locAll (sc : Scope) : List Expr → Bool
  | [] => true
  | .Name x _ :: r => (sc.names.lookup x == some .local) && locAll sc r
  | _ :: _ => false
/-- names at slots -/
def nmsB (N : List Str) (sc : Scope) (is : List Nat) (ts : List Expr) : Bool := chkGs N sc (is.map .nm) ts
def freshA : List Bool → Exs → Bool
  | [], .nil => true
  | f :: fs, .cons e es => (!f || freshE e) && freshA fs es
  | _, _ => false
section
variable (T : Tab) (N : List Str) (sc : Scope)
mutual
def chkS : St → Stmt → Bool
  | .asg own i e, st => match st with
    | .Assign [.Name x px] v _ => decide (N[i]? = some x) && locB sc x && chkE T N sc e v && (if swapB sc x px v then isLc e && !own else true) && (!own || freshE e)
    | _ => false
  | .par is es, st => match st with
    | .Assign [.Tuple ts _ _] (.Tuple vs _ _) _ => nmsB N sc (is.map (·.1)) ts && chkA T N sc es vs && freshA (is.map (·.2)) es && decide (vs.length ≤ 1000) && decide (vs.length = is.length) && decide (is.map (·.1)).Nodup && (match swO sc ts vs with
        | none => false
        | some none => true
        | some (some _) => locAll sc ts && (vs.length == 2 || vs.length == 3))
    | _ => false
  | .unp t e, st => match st with
    | .Assign [tg] v _ => (match tg with
        | .Tuple _ _ _ => true
        | _ => false) && chkG N sc t tg && chkE T N sc e v && notTup v
    | _ => false
  | .app i e, st => match st with
    | .Expr (.Call (.Attribute x f ap) [v] [] cp) _ => varB N sc x i && decide (f = "append") && (ap.endLine == cp.line) && chkE T N sc e v && nstar v && nsuper x
    | _ => false
  | .setO i k e, st => match st with
    | .Assign [.Subscript x y _] v _ => varB N sc x i && chkE T N sc k y && chkE T N sc e v && nslice y && nComp v
    | _ => false
  | .dset i k e, st => match st with
    | .Assign [.Subscript x y _] v _ => varB N sc x i && chkE T N sc k y && chkE T N sc e v && nslice y && nComp v
    | _ => false
  | .swp i k1 k2 e1 e2, st => match st with
    | .Assign [.Tuple [.Subscript x1 y1 _, .Subscript x2 y2 _] _ _] (.Tuple [v1, v2] _ _) _ => varB N sc x1 i && varB N sc x2 i && chkE T N sc k1 y1 && chkE T N sc k2 y2 && chkE T N sc e1 v1 && chkE T N sc e2 v2 && nstar v1 && nstar v2 && nslice y1 && nslice y2
    | _ => false
  | .cupS i k e, st => match st with
    | .Assign [.Subscript x (.Constant (.int j) _ _) _] v _ => varB N sc x i && decide (j = (k : Int)) && decide (k < 2) && chkE T N sc e v && nComp v
    | _ => false
  | .ex e, st => match st with
    | .Expr v _ => chkE T N sc e v && nComp v
    | _ => false
  | .ret e, st => match st with
    | .Return (some v) _ => chkE T N sc e v
    | _ => false
  | .retN, st => match st with
    | .Return none _ => true
    | _ => false
  | .ite c a b, st => match st with
    | .If v x y _ => chkT T N sc c v && chkSs a x && chkSs b y
    | _ => false
  | .for t it b, st => match st with
    | .For tg iter body [] _ => chkG N sc t tg && chkI T N sc it iter tg && nset iter && chkSs b body
    | _ => false
  | .whl _ c b, st => match st with
    | .While v body [] _ => chkT T N sc c v && chkSs b body
    | _ => false
  | .rse k, st => match st with
    | .Raise (some (.Call (.Name x _) [.Constant (.str _) _ _] [] _)) none _ => decide (x = k) && glB sc x && nd x && T.excs.contains x
    | _ => false
  | .pass, st => match st with
    | .Pass _ => true
    | _ => false
  | .brk, st => match st with
    | .Break _ => true
    | _ => false
  | .cont, st => match st with
    | .Continue _ => true
    | _ => false
  | .share _ s, st => chkS s st
  | .tryR _ _ _, _ => false
def chkSs : Sts → List Stmt → Bool
  | .nil, sts => match sts with
    | [] => true
    | _ => false
  | .cons s ss, sts => match sts with
    | st :: sts => chkS s st && chkSs ss sts
    | _ => false
end
end
/-! ### the context of a def -/
def ExcOk (X : Cx) (x : Str) : Prop := ∃ C, X.mg x = some (.ref C) ∧ ∀ (m : Str) (j : Nat) (p p2 pos : Pos), Gl X x → nd x = true → PMk X (.Call (.Name x p) [.Constant (.str m) j p2] [] pos) (fun _ H Q => Q (.ref C) none H)
structure GoodS (kin : Nat → Str → Option Str) (T : Tab) (Φ : Orc) (X : Cx) (W : WX) : Prop extends Good kin T Φ X W where
  pass : PassesOwn (model X.prog X.w) X.A X.env X.xe
  fnAll : ∀ x, X.fn x = true
  kind : X.env.scope.kind = .function
  exc : ∀ x, T.excs.contains x = true → ExcOk X x

section
variable {X : Cx} {W : WX} {sc : Scope} {T : Tab} {N : List Str} {kin : Nat → Str → Option Str} {Φ : Orc}
theorem loc_of {x : Str} (hs : X.env.scope = sc) (h : locB sc x = true) : Loc X.env.scope x := by
  rw [hs]
  unfold locB at h
  split at h
  · exact .inl (by assumption)
  · exact .inr (by assumption)
  · cases h
theorem tg_def (g : GoodS kin T Φ X W) (hN : X.N = N) (hs : X.env.scope = sc) {t : Tg} {e : Expr} (h : chkG N sc t e = true) : PG X e (gOf X.K t) ∧ GOk X.K t (gOf X.K t) :=
  pg_of g.calm hN g.nd (fun x hx => ⟨loc_of hs hx, .inl (g.fnAll x)⟩) t e h
theorem tgs_def (g : GoodS kin T Φ X W) (hN : X.N = N) (hs : X.env.scope = sc) {t : List Tg} {e : List Expr} (h : chkGs N sc t e = true) : PGs X e (gsOf X.K t) ∧ GsOk X.K t (gsOf X.K t) :=
  pgs_of g.calm hN g.nd (fun x hx => ⟨loc_of hs hx, .inl (g.fnAll x)⟩) t e h
theorem swapsWith_of {v : Expr} {x : Str} {px : Pos} {l : Nat} (hs : X.env.scope = sc) (hk : X.env.scope.kind = .function) (h : swapB sc x px v = false) : swapsWith v (some (.Name x px)) l X.env = pure false := by
  have hb : X.env.blockKind = .function := by unfold Env.blockKind; rw [hk]; rfl
  unfold swapsWith
  cases v with
  | ListComp a b s p =>
    simp only [swapB] at h
    have hkk : X.env.kindOf x = sc.names.lookup x := by unfold Env.kindOf; rw [hs]
    simp only [hb, hkk]
    show (pure (((ScopeKind.function == ScopeKind.function) && (sc.names.lookup x == some NameKind.local) && (px.line == p.line)) && !(s.names.any fun (n, k) => n == x && (k == .local || k == .cell))) : Sem Bool) = pure false
    have h0 : (ScopeKind.function == ScopeKind.function) = true := by decide
    rw [h0, Bool.true_and, h]
  | SetComp a b s p => cases h
  | DictComp a b c s p => cases h
  | _ => rfl
theorem swap_true {elt : Expr} {gs : List Comprehension} {s : Scope} {p : Pos} {x : Str} {px : Pos} {l : Nat} (hs : X.env.scope = sc) (hk : X.env.scope.kind = .function) (h : swapB sc x px (.ListComp elt gs s p) = true) :
    swapsWith (.ListComp elt gs s p) (some (.Name x px)) l X.env = pure true ∧ X.env.scope.names.lookup x = some .local := by
  simp only [swapB, Bool.and_eq_true, Bool.not_eq_true'] at h
  have h1 : sc.names.lookup x = some .local := by simpa using h.1.1
  exact ⟨sw_true hk (by rw [hs]; exact h1) h.1.2 h.2, by rw [hs]; exact h1⟩
/-- storing a value in a slot -/
theorem ss_set {i : Nat} {x : Str} {v : Expr} {m : PF.Env → M D} {px pos : Pos} (g : GoodS kin T Φ X W) (hi : X.N[i]? = some x) (hl : Loc X.env.scope x) (hw : swapsWith v (some (.Name x px)) pos.line X.env = pure false) (he : SE X W v m) :
    SS X W (.Assign [.Name x px] v pos) fun ρ => M.bind (m ρ) fun d => M.pure (.nx (setS ρ i d)) := by
  obtain ⟨t, h1, h2⟩ := he
  refine ⟨_, ps_set g.nd hi hl h1 hw (.inl (g.fnAll x)), fun σ H G ρ c D G0 H0 P hP r p => ?_⟩
  exact h2 σ H G ρ c _ r.at_ (PostS.bind r hP p fun d c1 u H1 G1 e1 r1 q1 p1 => p1 _ _ _ (r1.setSh q1))
theorem ss_setW {i : Nat} {x : Str} {v : Expr} {m : PF.Env → M D} {px pos : Pos} (g : GoodS kin T Φ X W) (hi : X.N[i]? = some x) (hl : Loc X.env.scope x) (hw : swapsWith v (some (.Name x px)) pos.line X.env = pure false) (he : SFo X W v m) :
    SS X W (.Assign [.Name x px] v pos) fun ρ => M.bind (lstOnly (m ρ)) fun d => M.pure (.nx (setW ρ i d)) := by
  obtain ⟨t, h1, h2⟩ := he
  refine ⟨_, ps_set g.nd hi hl h1 hw (.inl (g.fnAll x)), fun σ H G ρ c D G0 H0 P hP r p => ?_⟩
  refine h2 σ H G ρ c _ r.at_ (PostS.bind r hP p fun d c1 u H1 G1 e1 r1 q1 p1 => ?_)
  obtain ⟨ho, a, rfl, ha⟩ := q1
  refine p1 _ _ _ (r1.setOw ho (r.ext.back ha) fun j e hj hij hz => ?_)
  obtain ⟨w, w1, w2⟩ := r.at_.ow j e hj
  rw [hz] at w1
  cases w1
  obtain ⟨b, eb, _, b2⟩ := w2.ref
  cases eb
  exact b2 ha
theorem ss_setLc {i : Nat} {x : Str} {t : Tg} {tg iter elt : Expr} {ifs : List Expr} {scope : Scope} {pos px spos : Pos} {wi : TI} {tt : TT} {te : TE} {m : PF.Env → M D} (hps : PS X (.Assign [.Name x px] (.ListComp elt [⟨tg, iter, ifs, 0⟩] scope pos) spos) (tAsg (tLc wi (gOf X.K t) tt te t.slots) (gName i)))
    (h2 : ∀ σ H G ρ c Q, At X.K G H σ ρ c → Post X W σ (DenR X.K) G H (m ρ c) Q → tLc wi (gOf X.K t) tt te t.slots σ H Q) :
    SS X W (.Assign [.Name x px] (.ListComp elt [⟨tg, iter, ifs, 0⟩] scope pos) spos) fun ρ => M.bind (m ρ) fun d => M.pure (.nx (setS ρ i d)) :=
  ⟨_, hps, fun σ H G ρ c D G0 H0 P hP r p => h2 σ H G ρ c _ r.at_ (PostS.bind r hP p fun d c1 u H1 G1 e1 r1 q1 p1 => p1 _ _ _ (r1.setSh q1))⟩
theorem chk_loc {i : Nat} {x : Str} (hN : X.N = N) (h : N[i]? = some x) : X.N[i]? = some x := by rw [hN]; exact h
theorem snd_asg (g : GoodS kin T Φ X W) (hN : X.N = N) (hs : X.env.scope = sc) (own : Bool) (i : Nat) (e : Ex) (st : Stmt) (h : chkS T N sc (.asg own i e) st = true) : SS X W st (evS kin Φ (.asg own i e)) := by
  simp only [chkS] at h
  split at h
  · rename_i x px v pos
    simp only [Bool.and_eq_true, decide_eq_true_eq] at h
    obtain ⟨⟨⟨⟨h1, h2⟩, h3⟩, h4⟩, h5⟩ := h
    have hi := chk_loc hN h1
    have hl := loc_of hs h2
    cases hsw : swapB sc x px v with
    | false =>
      have hw := swapsWith_of (l := pos.line) hs g.kind hsw
      cases own with
      | false => exact ss_set g hi hl hw (sndE e X W sc v g.toGood hN hs h3)
      | true => exact ss_setW g hi hl hw (sndF e v g.toGood hN hs (by simpa using h5) h3)
    | true =>
      rw [hsw] at h4
      simp only [if_true, Bool.and_eq_true, Bool.not_eq_true'] at h4
      obtain ⟨h4, h6⟩ := h4
      subst h6
      cases e with
      | lc t it e' =>
        simp only [chkE, chkP, dflC] at h3
        split at h3
        · rename_i elt tg iter scope pos2
          simp only [Bool.and_eq_true] at h3
          obtain ⟨⟨⟨⟨k1, k2⟩, k3⟩, k4⟩, k5⟩ := h3
          obtain ⟨s1, s2⟩ := swap_true (l := pos.line) hs g.kind hsw
          have bk : BlkOk X.N X.env.scope scope (ownOf N t.slots) := by rw [hN, hs]; exact blkOk_by k3
          obtain ⟨wi, i1, i2, i3⟩ := se_lc (pos := pos2) g.calm hN g.nd hs ⟨k2, bk, k4⟩ (sndI it t _ X W sc iter tg g.toGood hN hs k1 k4) fun s0 H0 C cl fp =>
            sndE (kin := kin) e' (X.blk s0 H0 scope (compEnvC scope cl C X.env) fp) W0 (relS scope sc) elt (g.toGood.blk ..) hN (by rw [← hs]; rfl) k5
          have hp := ps_setLc (elt := elt) (ifs := []) (pos := pos2) (spos := pos) (py := px) g.calm g.nd hi s2 s1 i1 bk (fun s H C cl fp => (pg_blk g.calm hN g.nd hs k4 s H C cl fp).1) (fun _ _ _ _ _ => pts_nil) (fun s H C cl fp => pe_bE s H C cl fp) (fold_plain k2)
          rw [own_slots] at hp
          exact ss_setLc hp i3
        · cases h3
      | lcif t it c e' =>
        simp only [chkE, chkP, dflC] at h3
        split at h3
        · rename_i elt tg iter cnd scope pos2
          simp only [Bool.and_eq_true] at h3
          obtain ⟨⟨⟨⟨⟨k1, k2⟩, k3⟩, k4⟩, k5⟩, k6⟩ := h3
          obtain ⟨s1, s2⟩ := swap_true (l := pos.line) hs g.kind hsw
          have bk : BlkOk X.N X.env.scope scope (ownOf N t.slots) := by rw [hN, hs]; exact blkOk_by k3
          obtain ⟨wi, i1, i2, i3⟩ := se_lcif (pos := pos2) g.calm hN g.nd hs ⟨k2, bk, k4⟩ (sndI it t _ X W sc iter tg g.toGood hN hs k1 k4) (fun s0 H0 C cl fp =>
            sndT (kin := kin) c (X.blk s0 H0 scope (compEnvC scope cl C X.env) fp) W0 (relS scope sc) cnd (g.toGood.blk ..) hN (by rw [← hs]; rfl) k5) fun s0 H0 C cl fp =>
            sndE (kin := kin) e' (X.blk s0 H0 scope (compEnvC scope cl C X.env) fp) W0 (relS scope sc) elt (g.toGood.blk ..) hN (by rw [← hs]; rfl) k6
          have hp := ps_setLc (elt := elt) (ifs := [cnd]) (pos := pos2) (spos := pos) (py := px) g.calm g.nd hi s2 s1 i1 bk (fun s H C cl fp => (pg_blk g.calm hN g.nd hs k4 s H C cl fp).1) (fun s H C cl fp => pts_one (pt_bT s H C cl fp)) (fun s H C cl fp => pe_bE s H C cl fp) (fold_plain k2)
          rw [own_slots] at hp
          exact ss_setLc hp i3
        · cases h3
      | _ => cases h4
  · cases h
end
end PF
end

/-! ## PfS17 -/
section
/-! PfS17: further statements. -/
set_option linter.all false
set_option autoImplicit false
namespace PF
open PySem L2
theorem len2 {α : Type} {l : List α} (h : l.length = 2) : ∃ a b, l = [a, b] := by
  match l, h with
  | [a, b], _ => exact ⟨a, b, rfl⟩
theorem len3 {α : Type} {l : List α} (h : l.length = 3) : ∃ a b c, l = [a, b, c] := by
  match l, h with
  | [a, b, c], _ => exact ⟨a, b, c, rfl⟩
/-- values, some of which are to be owned -/
def FL (K : PySem.W.Frag) (Hs : Hp) (G : Gh) (H : Hp) : List Bool → List V → List D → Prop
  | [], [], [] => True
  | f :: fs, v :: vs, d :: ds => (if f = true then OwnR K Hs G H v d ∧ ∀ j : Nat, fs[j]? = some true → vs[j]? ≠ some v else Den K G H v d) ∧ FL K Hs G H fs vs ds
  | _, _, _ => False
theorem FL.back {K : PySem.W.Frag} {Hs Hs' : Hp} {G : Gh} {H : Hp} (h : ∀ a, nh Hs' a = none → nh Hs a = none) : ∀ {fs : List Bool} {vs : List V} {ds : List D}, FL K Hs' G H fs vs ds → FL K Hs G H fs vs ds
  | [], [], [], _ => True.intro
  | true :: _, _ :: _, _ :: _, q => ⟨⟨⟨q.1.1.1, let ⟨p, e, z⟩ := q.1.1.2; ⟨p, e, h p z⟩⟩, q.1.2⟩, FL.back h q.2⟩
  | false :: _, _ :: _, _ :: _, q => ⟨q.1, FL.back h q.2⟩
  | [], _ :: _, _, q => q.elim
  | [], [], _ :: _, q => q.elim
  | _ :: _, [], _, q => q.elim
  | _ :: _, _ :: _, [], q => q.elim
theorem FL.own {K : PySem.W.Frag} {Hs : Hp} {G : Gh} {H : Hp} : ∀ {fs : List Bool} {vs : List V} {ds : List D} {j : Nat} {v : V}, FL K Hs G H fs vs ds → fs[j]? = some true → vs[j]? = some v → ∃ p, v = .ref p ∧ nh Hs p = none
  | f :: fs, v :: vs, d :: ds, 0, w, q, h1, h2 => by
    simp at h1 h2
    subst h1 h2
    exact q.1.1.2
  | f :: fs, v :: vs, d :: ds, j + 1, w, q, h1, h2 => FL.own (j := j) q.2 (by simpa using h1) (by simpa using h2)
  | [], _, _, _, _, _, h1, _ => by simp at h1
  | _ :: _, [], _, _, _, q, _, _ => by cases q
  | _ :: _, _ :: _, [], _, _, q, _, _ => by cases q
theorem FL.length {K : PySem.W.Frag} {Hs : Hp} {G : Gh} {H : Hp} : ∀ {fs : List Bool} {vs : List V} {ds : List D}, FL K Hs G H fs vs ds → vs.length = fs.length ∧ ds.length = fs.length
  | [], [], [], _ => ⟨rfl, rfl⟩
  | _ :: _, _ :: _, _ :: _, q => by simp [FL.length q.2]
  | [], _ :: _, _, q => q.elim
  | [], [], _ :: _, q => q.elim
  | _ :: _, [], _, q => q.elim
  | _ :: _, _ :: _, [], q => q.elim
def SAF (X : Cx) (W : WX) (fs : List Bool) (es : List Expr) (m : PF.Env → M (List D)) : Prop := ∃ t, PA X es t ∧ ∀ σ H G ρ c Q, At X.K G H σ ρ c → Post X W σ (fun G' H' vs ds => FL X.K H G' H' fs vs ds) G H (m ρ c) Q → t σ H Q
section
variable {X : Cx} {W : WX} {sc : Scope} {T : Tab} {N : List Str} {kin : Nat → Str → Option Str} {Φ : Orc}
theorem sndAF (g : Good kin T Φ X W) (hN : X.N = N) (hs : X.env.scope = sc) : ∀ (fs : List Bool) (es : Exs) (xs : List Expr), freshA fs es = true → chkA T N sc es xs = true → SAF X W fs xs (evAF kin Φ fs es)
  | [], .nil, xs, hf, h => by
    cases xs with
    | cons => simp [chkA] at h
    | nil => exact ⟨_, pa_nil, fun σ H G ρ c Q a p => p [] H G (Ext.refl G H) a.trk a.cup True.intro⟩
  | f :: fs, .cons e es, xs, hf, h => by
    cases xs with
    | nil => simp [chkA] at h
    | cons x xs =>
      simp only [chkA, Bool.and_eq_true] at h
      simp only [freshA, Bool.and_eq_true] at hf
      obtain ⟨tb, b1, b2⟩ := sndAF g hN hs fs es xs hf.2 h.2
      cases f with
      | false =>
        obtain ⟨ta, a1, a2⟩ := sndE (kin := kin) e X W sc x g hN hs h.1.1
        refine ⟨_, pa_cons a1 b1 (star_cons h.1.2), fun σ H G ρ c Q at0 p => ?_⟩
        refine a2 σ H G ρ c _ at0 (Post.bind p fun d c1 v H1 G1 e1 t1 q1 r1 p1 => ?_)
        refine b2 σ H1 G1 ρ c1 _ (at0.stay e1 t1 q1) (Post.bind p1 fun ds c2 us H2 G2 e2 t2 q2 r2 p2 => ?_)
        exact p2 _ H2 G2 (Ext.refl _ _) t2 q2 ⟨Den.stay e2.stb _ _ r1, FL.back (fun a => e1.back) r2⟩
      | true =>
        obtain ⟨ta, a1, a2⟩ := sndF (kin := kin) e x g hN hs (by simpa using hf.1) h.1.1
        refine ⟨_, pa_cons a1 b1 (star_cons h.1.2), fun σ H G ρ c Q at0 p => ?_⟩
        refine a2 σ H G ρ c _ at0 (Post.bind p fun d c1 v H1 G1 e1 t1 q1 r1 p1 => ?_)
        refine b2 σ H1 G1 ρ c1 _ (at0.stay e1 t1 q1) (Post.bind p1 fun ds c2 us H2 G2 e2 t2 q2 r2 p2 => ?_)
        refine p2 _ H2 G2 (Ext.refl _ _) t2 q2 ⟨⟨⟨r1.1.stay t1 e2, r1.2⟩, fun j h1 h2 => ?_⟩, FL.back (fun a => e1.back) r2⟩
        obtain ⟨p', ep, hp⟩ := FL.own r2 h1 h2
        obtain ⟨a, ea, _, b2⟩ := r1.1.ref
        rw [ep] at ea
        cases ea
        exact b2 hp
  | [], .cons _ _, _, hf, _ => by simp [freshA] at hf
  | _ :: _, .nil, _, hf, _ => by simp [freshA] at hf
def setV (σ : L2.St) : List Nat → List V → L2.St
  | i :: is, v :: vs => setV (σ.set i (some v)) is vs
  | _, _ => σ
theorem RS.par {K : PySem.W.Frag} {G0 G : Gh} {H0 H Hs : Hp} {P : Gh → Hp → Prop} {c : Cup} : ∀ {is : List (Nat × Bool)} {vs : List V} {ds : List D} {σ : L2.St} {ρ ρ' : PF.Env}, RS K G0 H0 P G H σ ρ c → (∀ a, nh Hs a = none → nh H0 a = none) →
    (∀ (j : Nat) (e : D) (v : V), ρ[j]? = some (some (.ow e)) → σ[j]? = some (some v) → ∀ i : Nat, (is.map (·.2))[i]? = some true → vs[i]? ≠ some v) → FL K Hs G H (is.map (·.2)) vs ds → setP ρ is ds = some ρ' → RS K G0 H0 P G H (setV σ (is.map (·.1)) vs) ρ' c
  | [], vs, ds, σ, ρ, ρ', r, h0, hd, q, h => by
    cases vs <;> cases ds <;> first | exact q.elim | skip
    simp only [setP, Option.some.injEq] at h
    subst h
    exact r
  | (i, f) :: is, vs, ds, σ, ρ, ρ', r, h0, hd, q, h => by
    cases vs with
    | nil => cases ds <;> exact q.elim
    | cons v vs =>
      cases ds with
      | nil => exact q.elim
      | cons d ds =>
        simp only [setP] at h
        obtain ⟨q1, q2⟩ := q
        cases f with
        | false =>
          rw [if_neg Bool.false_ne_true] at h q1
          show RS K G0 H0 P G H (setV (σ.set i (some v)) (is.map (·.1)) vs) ρ' c
          refine RS.par (r.setSh q1) h0 (fun j e w h1 h2 i' h3 => ?_) q2 h
          rcases set_get h1 with ⟨_, z⟩ | ⟨z, h1⟩
          · cases z
          · rw [List.getElem?_set_ne z] at h2
            exact hd j e w h1 h2 (i' + 1) (by simpa using h3)
        | true =>
          rw [if_pos rfl] at h q1
          obtain ⟨⟨q3, p, rfl, q4⟩, q5⟩ := q1
          show RS K G0 H0 P G H (setV (σ.set i (some (.ref p))) (is.map (·.1)) vs) ρ' c
          refine RS.par (r.setOw q3 (h0 p q4) fun j e h1 h2 h3 => hd j e _ h1 h3 0 rfl rfl) h0 (fun j e w h1 h2 i' h3 => ?_) q2 h
          rcases set_get h1 with ⟨z1, z⟩ | ⟨z, h1⟩
          · subst z1
            rcases set_get h2 with ⟨_, z2⟩ | ⟨z2, _⟩
            · subst z2
              exact q5 i' (by simpa using h3)
            · exact absurd rfl z2
          · rw [List.getElem?_set_ne z] at h2
            exact hd j e w h1 h2 (i' + 1) (by simpa using h3)
theorem gs_nms {K : PySem.W.Frag} : ∀ {is : List Nat} {vs : List V} {σ : L2.St} {H : Hp} {Q : L2.St → Hp → Prop}, vs.length = is.length → Q (setV σ is vs) H → gsOf K (is.map .nm) vs σ H Q
  | [], [], σ, H, Q, _, h => ⟨rfl, h⟩
  | i :: is, v :: vs, σ, H, Q, hl, h => ⟨v, vs, rfl, gs_nms (by simpa using hl) h⟩
  | [], _ :: _, _, _, _, hl, _ => by simp at hl
  | _ :: _, [], _, _, _, hl, _ => by simp at hl
theorem par_disj {K : PySem.W.Frag} {G0 G G1 : Gh} {H0 H H1 : Hp} {P : Gh → Hp → Prop} {σ : L2.St} {ρ : PF.Env} {c : Cup} {fs : List Bool} {vs : List V} {ds : List D} (r : RS K G0 H0 P G H σ ρ c) (q : FL K H G1 H1 fs vs ds) :
    ∀ (j : Nat) (e : D) (v : V), ρ[j]? = some (some (.ow e)) → σ[j]? = some (some v) → ∀ i : Nat, fs[i]? = some true → vs[i]? ≠ some v := fun j e v h1 h2 i h3 h4 => by
  obtain ⟨p, rfl, hp⟩ := FL.own q h3 h4
  obtain ⟨w, w1, w2⟩ := r.at_.ow j e h1
  rw [h2] at w1; cases w1
  obtain ⟨b, eb, _, b2⟩ := w2.ref
  cases eb
  exact b2 hp
theorem own_stay {K : PySem.W.Frag} {Hs : Hp} {G G' : Gh} {H H' : Hp} (t : Trk G H) (e : Ext G H G' H') : ∀ {fs : List Bool} {vs : List V} {ds : List D}, FL K Hs G H fs vs ds → FL K Hs G' H' fs vs ds
  | [], [], [], _ => True.intro
  | true :: _, _ :: _, _ :: _, q => ⟨⟨⟨q.1.1.1.stay t e, q.1.1.2⟩, q.1.2⟩, own_stay t e q.2⟩
  | false :: _, _ :: _, _ :: _, q => ⟨Den.stay e.stb _ _ q.1, own_stay t e q.2⟩
  | [], _ :: _, _, q => q.elim
  | [], [], _ :: _, q => q.elim
  | _ :: _, [], _, q => q.elim
  | _ :: _, _ :: _, [], q => q.elim
theorem chkGs_len : ∀ {ts : List Tg} {es : List Expr}, chkGs N sc ts es = true → es.length = ts.length
  | [], [], _ => rfl
  | [], _ :: _, h => by simp [chkGs] at h
  | _ :: _, [], h => by simp [chkGs] at h
  | t :: ts, e :: es, h => by
    simp only [chkGs, Bool.and_eq_true] at h
    simp [chkGs_len h.2]
theorem nm_of {i : Nat} {t : Expr} (h : chkG N sc (.nm i) t = true) : ∃ x p, t = .Name x p ∧ N[i]? = some x := by
  simp only [chkG] at h
  split at h
  · rw [Bool.and_eq_true, decide_eq_true_eq] at h
    exact ⟨_, _, rfl, h.1⟩
  · cases h
theorem snd_par (g : GoodS kin T Φ X W) (hN : X.N = N) (hs : X.env.scope = sc) (is : List (Nat × Bool)) (es : Exs) (st : Stmt) (h : chkS T N sc (.par is es) st = true) : SS X W st (evS kin Φ (.par is es)) := by
  simp only [chkS] at h
  split at h
  · rename_i ts k1 p1 vs k2 p2 pos
    simp only [Bool.and_eq_true, decide_eq_true_eq] at h
    obtain ⟨⟨⟨⟨⟨⟨h1, h2⟩, h3⟩, h4⟩, h5⟩, h6⟩, h7⟩ := h
    obtain ⟨ta, a1, a2⟩ := sndAF (kin := kin) g.toGood hN hs _ es vs h3 h2
    obtain ⟨g1, g2⟩ := tgs_def g hN hs h1
    have hsw : swapsWithSole [.Tuple ts k1 p1] (.Tuple vs k2 p2) pos.line X.env = pure false := rfl
    split at h7
    · cases h7
    · rename_i e7
      obtain ⟨m1, m2⟩ := assign_list (env := X.env) h1
      refine ⟨_, ps_asg (pe_tupF a1) (pg_tup g.calm g1 m1 m2) hsw (sw_of hs (by rw [← hs]; exact g.kind) e7) rfl, fun σ H G ρ c D G0 H0 P hP r p => ?_⟩
      refine a2 σ H G ρ c _ r.at_ (PostS.bind r hP p fun ds c1 us H1 G1 e1 r1 q1 p1 => ?_)
      obtain ⟨ρ', eρ, p2⟩ := p1.lift
      have hl := q1.length.1
      refine ⟨line1000 (by rw [hl, List.length_map, ← h5]; exact h4), fun q o hq ho => ?_⟩
      have r2 := r1.go hP (Ext.made (o := .frz o (.tup us)) hq) (r1.at_.trk.made hq) (r1.at_.cup.made hq)
      refine ⟨q, us, rfl, sqT upd_same, by simp [hl], gs_nms (by simp [hl]) (p2 _ _ _ (RS.par r2 (fun a ha => r.ext.back ha) (par_disj r q1) (own_stay r1.at_.trk (Ext.made hq) q1) eρ))⟩
    · rename_i nn e7
      have m1' := chkGs_len h1
      rw [Bool.and_eq_true, Bool.or_eq_true, beq_iff_eq, beq_iff_eq] at h7
      obtain ⟨h8, h9⟩ := h7
      have hsn := sw_of (k := k1) (k2 := k2) (p := p1) (p2 := p2) hs (by rw [← hs]; exact g.kind) e7
      have hnames : nn = swN sc ts := by
        unfold swO at e7
        split at e7
        · cases e7
        split at e7
        · cases e7
        split at e7
        · cases e7
        split at e7
        · cases e7
        split at e7
        · cases e7
        · cases e7; rfl
      have hlen2 : (swN sc ts).length = ts.length := by
        unfold swO at e7
        split at e7
        · cases e7
        split at e7
        · cases e7
        split at e7
        · cases e7
        · rename_i hc
          simp only [Bool.or_eq_true, bne_iff_ne, ne_eq, not_or, Decidable.not_not] at hc
          exact hc.1
      rcases h9 with h9 | h9
      · obtain ⟨v1, v2, rfl⟩ := len2 h9
        obtain ⟨⟨i, f⟩, ⟨j, f2⟩, rfl⟩ := len2 (l := is) (by rw [← h5]; rfl)
        have htl : ts.length = 2 := by simpa using m1'
        obtain ⟨t1, t2, rfl⟩ := len2 htl
        · · simp only [nmsB, List.map_cons, List.map_nil, chkGs, Bool.and_eq_true] at h1
            obtain ⟨x, px, rfl, nx⟩ := nm_of h1.1
            obtain ⟨y, py, rfl, ny⟩ := nm_of h1.2.1
            simp only [locAll, Bool.and_eq_true, beq_iff_eq] at h8
            have hnn : nn = [x, y] := by
              rw [hnames]
              unfold swN at hlen2 ⊢
              simp only [List.filterMap_cons, List.filterMap_nil] at hlen2 ⊢
              split at hlen2 <;> split at hlen2 <;> simp_all
            rw [hnn] at hsn
            have hij : i ≠ j := fun z => by simp [z] at h6
            refine ⟨_, ps_par g.calm g.nd (chk_loc hN nx) (chk_loc hN ny) hij (by rw [hs]; exact h8.1) (by rw [hs]; exact h8.2.1) a1 hsn hsw, fun σ H G ρ c D G0 H0 P hP r p => ?_⟩
            refine a2 σ H G ρ c _ r.at_ (PostS.bind r hP p fun ds c1 us H1 G1 e1 r1 q1 p1 => ?_)
            obtain ⟨ρ', eρ, p2⟩ := p1.lift
            have hl := q1.length.1
            match us, hl with
            | [u1, u2], _ => exact ⟨u1, u2, rfl, p2 _ _ _ (RS.par r1 (fun a ha => r.ext.back ha) (par_disj r q1) q1 eρ)⟩
      · obtain ⟨v1, v2, v3, rfl⟩ := len3 h9
        obtain ⟨⟨i, f⟩, ⟨j, f2⟩, ⟨l, f3⟩, rfl⟩ := len3 (l := is) (by rw [← h5]; rfl)
        have htl : ts.length = 3 := by simpa using m1'
        obtain ⟨t1, t2, t3, rfl⟩ := len3 htl
        · · simp only [nmsB, List.map_cons, List.map_nil, chkGs, Bool.and_eq_true] at h1
            obtain ⟨x, px, rfl, nx⟩ := nm_of h1.1
            obtain ⟨y, py, rfl, ny⟩ := nm_of h1.2.1
            obtain ⟨z, pz, rfl, nz⟩ := nm_of h1.2.2.1
            simp only [locAll, Bool.and_eq_true, beq_iff_eq] at h8
            have hnn : nn = [x, y, z] := by
              rw [hnames]
              unfold swN at hlen2 ⊢
              simp only [List.filterMap_cons, List.filterMap_nil] at hlen2 ⊢
              split at hlen2 <;> split at hlen2 <;> split at hlen2 <;> simp_all
            rw [hnn] at hsn
            have hij : i ≠ j := fun z => by simp [z] at h6
            have hil : i ≠ l := fun z => by simp [z] at h6
            have hjl : j ≠ l := fun z => by simp [z] at h6
            refine ⟨_, ps_par3 g.calm g.nd (chk_loc hN nx) (chk_loc hN ny) (chk_loc hN nz) hij hil hjl (by rw [hs]; exact h8.1) (by rw [hs]; exact h8.2.1) (by rw [hs]; exact h8.2.2.1) a1 hsn hsw, fun σ H G ρ c D G0 H0 P hP r p => ?_⟩
            refine a2 σ H G ρ c _ r.at_ (PostS.bind r hP p fun ds c1 us H1 G1 e1 r1 q1 p1 => ?_)
            obtain ⟨ρ', eρ, p2⟩ := p1.lift
            have hl := q1.length.1
            match us, hl with
            | [u1, u2, u3], _ => exact ⟨u1, u2, u3, rfl, p2 _ _ _ (RS.par r1 (fun a ha => r.ext.back ha) (par_disj r q1) q1 eρ)⟩
  · cases h
end
end PF
end

/-! ## PfS18 -/
section
/-! PfS18: all statements; a def's body. -/
set_option linter.all false
set_option autoImplicit false
set_option maxHeartbeats 1000000
namespace PF
open PySem L2
mutual
theorem bindT_ow : ∀ (t : Tg) (d : D) (ρ ρ' : PF.Env), bindT t d ρ = some ρ' → ∀ (j : Nat) (e : D), ρ'[j]? = some (some (.ow e)) → ρ[j]? = some (some (.ow e)) ∧ j ∉ t.slots
  | .nm i, d, ρ, ρ', h, j, e, hj => by
    simp only [bindT, Option.some.injEq] at h
    subst h
    rcases set_get hj with ⟨_, z⟩ | ⟨z, hj⟩
    · cases z
    · exact ⟨hj, by simp only [Tg.slots, List.mem_singleton]; exact fun q => z q.symm⟩
  | .tp ts, d, ρ, ρ', h, j, e, hj => by
    cases d <;> simp only [bindT, reduceCtorEq] at h
    obtain ⟨h1, h2⟩ := bindTs_ow ts _ ρ ρ' h j e hj
    exact ⟨h1, by simpa [Tg.slots] using h2⟩
theorem bindTs_ow : ∀ (ts : List Tg) (ds : List D) (ρ ρ' : PF.Env), bindTs ts ds ρ = some ρ' → ∀ (j : Nat) (e : D), ρ'[j]? = some (some (.ow e)) → ρ[j]? = some (some (.ow e)) ∧ j ∉ slotsL ts
  | [], [], ρ, ρ', h, j, e, hj => by
    simp only [bindTs, Option.some.injEq] at h
    subst h
    exact ⟨hj, by simp [slotsL]⟩
  | t :: ts, d :: ds, ρ, ρ', h, j, e, hj => by
    simp only [bindTs, Option.bind_eq_some_iff] at h
    obtain ⟨ρ1, h1, h2⟩ := h
    obtain ⟨k1, k2⟩ := bindTs_ow ts ds ρ1 ρ' h2 j e hj
    obtain ⟨k3, k4⟩ := bindT_ow t d ρ ρ1 h1 j e k1
    exact ⟨k3, by simp only [slotsL, List.mem_append, not_or]; exact ⟨k4, k2⟩⟩
  | [], _ :: _, _, _, h, _, _, _ => by simp [bindTs] at h
  | _ :: _, [], _, _, h, _, _, _ => by simp [bindTs] at h
end
theorem RS.bindT {K : PySem.W.Frag} {G0 G : Gh} {H0 H : Hp} {P : Gh → Hp → Prop} {σ σ' : L2.St} {ρ ρ' : PF.Env} {c : Cup} {t : Tg} {d : D} (r : RS K G0 H0 P G H σ ρ c) (h : bindT t d ρ = some ρ') (a : At K G H σ' ρ' c) (ho : ∀ i, i ∉ t.slots → σ'[i]? = σ[i]?) : RS K G0 H0 P G H σ' ρ' c where
  at_ := a
  trk0 := r.trk0
  ext := r.ext
  fresh := fun i e b h1 h2 => by
    obtain ⟨k1, k2⟩ := bindT_ow t d ρ ρ' h i e h1
    exact r.fresh i e b k1 (by rw [← ho i k2]; exact h2)
  inj := fun i j e f b hij h1 h2 h3 h4 => by
    obtain ⟨k1, k2⟩ := bindT_ow t d ρ ρ' h i e h1
    obtain ⟨l1, l2⟩ := bindT_ow t d ρ ρ' h j f h2
    exact r.inj i j e f b hij k1 l1 (by rw [← ho i k2]; exact h3) (by rw [← ho j l2]; exact h4)
  pred := r.pred
theorem RS.weak {K : PySem.W.Frag} {G0 G : Gh} {H0 H : Hp} {P P' : Gh → Hp → Prop} {σ : L2.St} {ρ : PF.Env} {c : Cup} (r : RS K G0 H0 P G H σ ρ c) (h : P G H → P' G H) : RS K G0 H0 P' G H σ ρ c := ⟨r.at_, r.trk0, r.ext, r.fresh, r.inj, h r.pred⟩
section
variable {X : Cx} {W : WX} {sc : Scope} {T : Tab} {N : List Str} {kin : Nat → Str → Option Str} {Φ : Orc}
theorem ss_unp {t : Tg} {tg v : Expr} {pos : Pos} {m : PF.Env → M D} (g : GoodS kin T Φ X W) (hN : X.N = N) (hs : X.env.scope = sc) (ht : ∃ ts k p, tg = .Tuple ts k p) (h1 : chkG N sc t tg = true) (hn : notTup v = true) (he : SE X W v m) :
    SS X W (.Assign [tg] v pos) fun ρ => M.bind (m ρ) fun d => M.bind (M.lift (bindT t d ρ)) fun ρ' => M.pure (.nx ρ') := by
  obtain ⟨te, e1, e2⟩ := he
  obtain ⟨g1, g2⟩ := tg_def g hN hs h1
  obtain ⟨ts, k, p, rfl⟩ := ht
  refine ⟨_, ps_asg e1 g1 (by cases v <;> first | rfl | cases hn) (by cases v <;> first | rfl | cases hn) rfl, fun σ H G ρ c D G0 H0 P hP r p => ?_⟩
  refine e2 σ H G ρ c _ r.at_ (PostS.bind r hP p fun d c1 u H1 G1 x1 r1 q1 p1 => ?_)
  obtain ⟨ρ', eb, p2⟩ := p1.lift
  exact g2 σ H1 G1 ρ c1 u d ρ' _ r1.at_ (Den.w (d' := d) q1 eb) eb fun σ' a' o' l' => p2 _ _ _ (r1.bindT eb a' o')
theorem var_name {e : Expr} {i : Nat} (h : varB N sc e i = true) : ∃ x p, e = .Name x p := by
  unfold varB at h
  split at h
  · exact ⟨_, _, rfl⟩
  · cases h
theorem ss_app {i : Nat} {x v : Expr} {ap cp pos : Pos} {m : PF.Env → M D} (g : GoodS kin T Φ X W) (hN : X.N = N) (hs : X.env.scope = sc) (hv : varB N sc x i = true) (hl : (ap.endLine == cp.line) = true) (hn : nstar v = true) (he : SE X W v m) :
    SS X W (.Expr (.Call (.Attribute x "append" ap) [v] [] cp) pos) fun ρ => M.bind (M.lift ((getO ρ i).bind asLst)) fun xs => M.bind (m ρ) fun d => if small xs.length then M.pure (.nx (setW ρ i (.lst (xs ++ [d])))) else M.stuck := by
  obtain ⟨te, e1, e2⟩ := he
  obtain ⟨xn, px, rfl, hx⟩ := var_of hN hs hv
  have hp := pe_bm (cpos := cp) (apos := ap) PySem.F.plainAttrs_list PySem.F.slot_list_append PySem.F.type_list_append mt_append hx (pa_cons e1 pa_nil (star_cons hn)) rfl (by rw [star_cons hn]; rfl) hl (star_cons hn) rfl
  refine ⟨_, ps_expr (pos := pos) hp rfl, fun σ H G ρ c D G0 H0 P hP r p => ?_⟩
  obtain ⟨xs, eo, p⟩ := p.lift
  obtain ⟨d0, eo1, eo2⟩ := Option.bind_eq_some_iff.mp eo
  cases asLst_some eo2
  obtain ⟨w, w1, w2⟩ := r.at_.ow i _ (getO_some eo1)
  obtain ⟨a, vs, rfl, b1, b2, b3⟩ := w2
  refine ⟨_, w1, .inl ⟨rfl, _, .of b2⟩, e2 σ H G ρ c _ r.at_ (PostS.bind r hP p fun d c1 u H1 G1 x1 r1 q1 p2 => ?_)⟩
  obtain ⟨w', w1', w2'⟩ := r1.at_.ow i _ (getO_some eo1)
  rw [w1] at w1'; cases w1'
  obtain ⟨a', vs', ea, b1', b2', b3'⟩ := w2'
  cases ea
  split at p2
  · rename_i sm
    exact ⟨a, vs', u, rfl, rfl, b2', Nat.lt_of_le_of_lt (by rw [b3'.length]; exact of_decide_eq_true sm) (by decide), p2 _ _ _ (r1.mut hP (getO_some eo1) w1 b1' (b3'.app ⟨q1, True.intro⟩))⟩
  · exact p2.elim
/-- the owned list of a slot, at a statement -/
theorem own_at {K : PySem.W.Frag} {G0 G : Gh} {H0 H : Hp} {P : Gh → Hp → Prop} {σ : L2.St} {ρ : PF.Env} {c : Cup} {i : Nat} {xs : List D} (r : RS K G0 H0 P G H σ ρ c) (h : (getO ρ i).bind asLst = some xs) :
    ρ[i]? = some (some (.ow (.lst xs))) ∧ ∃ a vs, σ[i]? = some (some (.ref a)) ∧ G.B a ∧ H a = some (.lst vs) ∧ DenL K G H vs xs := by
  obtain ⟨d0, eo1, eo2⟩ := Option.bind_eq_some_iff.mp h
  cases asLst_some eo2
  obtain ⟨w, w1, w2⟩ := r.at_.ow i _ (getO_some eo1)
  obtain ⟨a, vs, rfl, b1, b2, b3⟩ := w2
  exact ⟨getO_some eo1, a, vs, w1, b1, b2, b3⟩
theorem sole_sub {x y v : Expr} {p : Pos} {l : Nat} {env : PySem.Env} (h : nComp v = true) : swapsWithSole [.Subscript x y p] v l env = pure false ∧ swappedStores [.Subscript x y p] v env = pure none := by
  cases v <;> first | exact ⟨rfl, rfl⟩ | cases h
theorem asg_sub {x y : Expr} {p : Pos} {env : PySem.Env} (h : nslice y = true) : ∀ v, assign (.Subscript x y p) env v = (do
      let ov ← holding [v] (eval x env)
      let iv ← holding [v, ov] (eval y env)
      standAt p
      holding [v, ov, iv] (setItem ov iv v)
      release [v, ov, iv] []) := by
  cases y <;> first | (intro v; rfl) | cases h
theorem ss_setO {i : Nat} {x y v : Expr} {p2 pos : Pos} {mk mv : PF.Env → M D} (g : GoodS kin T Φ X W) (hN : X.N = N) (hs : X.env.scope = sc) (hv : varB N sc x i = true) (hc : nComp v = true) (hy : nslice y = true) (hk : SE X W y mk) (he : SE X W v mv) :
    SS X W (.Assign [.Subscript x y p2] v pos) fun ρ => M.bind (mv ρ) fun d => M.bind (M.lift ((getO ρ i).bind asLst)) fun xs => M.bind (mk ρ) fun j => M.bind (M.lift (asInt j)) fun j =>
      M.bind (M.lift (place xs.length j)) fun n => M.pure (.nx (setW ρ i (.lst (xs.set n d)))) := by
  obtain ⟨te, e1, e2⟩ := he
  obtain ⟨tk, k1, k2⟩ := hk
  obtain ⟨xn, px, rfl, hx⟩ := var_of hN hs hv
  obtain ⟨s1, s2⟩ := sole_sub (x := .Name xn px) (y := y) (p := p2) (l := pos.line) (env := X.env) hc
  refine ⟨_, ps_asg e1 (pg_sub hx k1 set_list (asg_sub hy)) s1 s2 rfl, fun σ H G ρ c D G0 H0 P hP r p => ?_⟩
  refine e2 σ H G ρ c _ r.at_ (PostS.bind r hP p fun d c1 u H1 G1 x1 r1 q1 p1 => ?_)
  obtain ⟨xs, ex, p1⟩ := p1.lift
  obtain ⟨o1, a, vs, o2, o3, o4, o5⟩ := own_at r1 ex
  refine ⟨_, o2, k2 σ H1 G1 ρ c1 _ r1.at_ (PostS.bind r1 hP p1 fun j c2 ju H2 G2 x2 r2 q2 p2 => ?_)⟩
  obtain ⟨ji, ej, p3⟩ := p2.lift
  obtain ⟨n, en, p5⟩ := p3.lift
  cases j <;> simp [asInt] at ej
  subst ej
  cases show ju = .int _ from q2
  obtain ⟨_, a', vs', o2', o3', o4', o5'⟩ := own_at r2 ex
  rw [o2] at o2'; cases o2'
  exact ⟨a, vs', _, n, rfl, rfl, o4', by rw [o5'.length]; exact en, p5 _ _ _ (r2.mut hP o1 o2 o3' (o5'.set n (Den.stay x2.stb _ _ q1)))⟩
theorem own_atD {K : PySem.W.Frag} {G0 G : Gh} {H0 H : Hp} {P : Gh → Hp → Prop} {σ : L2.St} {ρ : PF.Env} {c : Cup} {i : Nat} {kvs : List (D × D)} (r : RS K G0 H0 P G H σ ρ c) (h : (getO ρ i).bind asDct = some kvs) :
    ρ[i]? = some (some (.ow (.dct kvs))) ∧ ∃ a, σ[i]? = some (some (.ref a)) ∧ G.B a ∧ DctAt K G H a kvs := by
  obtain ⟨d0, eo1, eo2⟩ := Option.bind_eq_some_iff.mp h
  cases asDct_some eo2
  obtain ⟨w, w1, w2⟩ := r.at_.ow i _ (getO_some eo1)
  obtain ⟨a, rfl, b1, b2⟩ := w2
  exact ⟨getO_some eo1, a, w1, b1, b2⟩
def rSetN (X : Cx) : V → V → V → Hp → (Hp → Prop) → Prop := fun o i v H Q => ∃ p k xs ob, o = .ref p ∧ (p == sysModules) = false ∧ H p = some (dO p ob) ∧ IsKey H k i ∧ (∀ hp, HOk X.prog X.w H hp → DictN X.w hp p xs) ∧ xs.length ≤ sizeLine ∧
  ∀ b u o2, RelV i b → RelV v u → IsEs X o2 (storedN xs k b u) → ((storedN xs k b u).map (·.1)).Nodup → Q (upd H p (dO p o2))
theorem set_dictN (hu : X.A.units + 65 < cLine) : PSet X (rSetN X) := by
  intro pins s σ H o i v ov iv u Q I ro ri rv h
  obtain ⟨p, k, xs, ob, rfl, hs, hp, hk, hd, hl, q⟩ := h
  cases ro
  refine setItem_N (by omega) (hk.is ri I.hok) (hd _ I.hok) hl fun h' tk hm' hs' => ?_
  obtain ⟨o2, g, ie⟩ := es_of hm'
  exact ⟨_, I.write (x := p) (e := p) (t' := tk) (by rw [hp]; exact True.intro) (.inl rfl) (fun b q hb z => (hs'.2 b hb).trans z) ⟨o2, g⟩ (dO_ok g), q iv u o2 ri rv ie hm'.nodup⟩
theorem ss_dset {i : Nat} {x y v : Expr} {p2 pos : Pos} {mk mv : PF.Env → M D} (g : GoodS kin T Φ X W) (hN : X.N = N) (hs : X.env.scope = sc) (hv : varB N sc x i = true) (hc : nComp v = true) (hy : nslice y = true) (hk : SE X W y mk) (he : SE X W v mv) :
    SS X W (.Assign [.Subscript x y p2] v pos) fun ρ => M.bind (mv ρ) fun d => M.bind (M.lift ((getO ρ i).bind asDct)) fun kvs => M.bind (mk ρ) fun a => M.bind (M.lift (keyD a)) fun kk =>
      if small kvs.length then M.pure (.nx (setW ρ i (.dct (dPut kvs kk a d)))) else M.stuck := by
  obtain ⟨te, e1, e2⟩ := he
  obtain ⟨tk, k1, k2⟩ := hk
  obtain ⟨xn, px, rfl, hx⟩ := var_of hN hs hv
  obtain ⟨s1, s2⟩ := sole_sub (x := .Name xn px) (y := y) (p := p2) (l := pos.line) (env := X.env) hc
  refine ⟨_, ps_asg e1 (pg_sub hx k1 (set_dictN g.units) (asg_sub hy)) s1 s2 rfl, fun σ H G ρ c D G0 H0 P hP r p => ?_⟩
  refine e2 σ H G ρ c _ r.at_ (PostS.bind r hP p fun d c1 u H1 G1 x1 r1 q1 p1 => ?_)
  obtain ⟨kvs, ex, p1⟩ := p1.lift
  obtain ⟨o1, a, o2, o3, o4⟩ := own_atD r1 ex
  refine ⟨_, o2, k2 σ H1 G1 ρ c1 _ r1.at_ (PostS.bind r1 hP p1 fun j c2 ju H2 G2 x2 r2 q2 p2 => ?_)⟩
  obtain ⟨kk, ek, p3⟩ := p2.lift
  obtain ⟨_, a', o2', o3', dat⟩ := own_atD r2 ex
  rw [o2] at o2'; cases o2'
  obtain ⟨ob, es, ep, h1, h2, h3, h4, _⟩ := id dat
  obtain ⟨xs, rx, hsy, nd, hl, _, hdict⟩ := dat.dict X.prog X.w
  split at p3
  · rename_i sm
    have sm' := of_decide_eq_true sm
    refine ⟨a, kk, xs, ob, rfl, hsy, h1, q2.isKey ek, hdict, by rw [hl]; exact Nat.le_trans sm' (by decide), fun b uu oo rb ru ie nd2 => p3 _ _ _ (r2.mutO hP o1 o2 o3' True.intro ⟨a, rfl, o3', ?_⟩)⟩
    have st : Stb G2 H2 G2 (upd H2 a (dO a oo)) := Stb.wr o3' True.intro
    exact dctAt_of upd_same ie hsy nd2 (Nat.le_trans (dPut_length kvs kk j d) (by omega)) ((rx.stay st).put ek rb (Den.stay st _ _ q2) ru (Den.stay st _ _ (Den.stay x2.stb _ _ q1)))
  · exact p3.elim
theorem ss_swp {i : Nat} {x1 x2 y1 y2 v1 v2 : Expr} {pa pb pt pv pos : Pos} {kt kv : Nat} {mk1 mk2 mv1 mv2 : PF.Env → M D} (g : GoodS kin T Φ X W) (hN : X.N = N) (hs : X.env.scope = sc) (hv1 : varB N sc x1 i = true) (hv2 : varB N sc x2 i = true) (n1 : nstar v1 = true) (n2 : nstar v2 = true) (hy1 : nslice y1 = true) (hy2 : nslice y2 = true)
    (hk1 : SE X W y1 mk1) (hk2 : SE X W y2 mk2) (he1 : SE X W v1 mv1) (he2 : SE X W v2 mv2) :
    SS X W (.Assign [.Tuple [.Subscript x1 y1 pa, .Subscript x2 y2 pb] kt pt] (.Tuple [v1, v2] kv pv) pos) fun ρ => M.bind (mv1 ρ) fun d1 => M.bind (mv2 ρ) fun d2 => M.bind (M.lift ((getO ρ i).bind asLst)) fun xs => M.bind (mk1 ρ) fun j1 => M.bind (M.lift (asInt j1)) fun j1 =>
      M.bind (M.lift (place xs.length j1)) fun n1 => M.bind (mk2 (setW ρ i (.lst (xs.set n1 d1)))) fun j2 => M.bind (M.lift (asInt j2)) fun j2 =>
      M.bind (M.lift (place xs.length j2)) fun n2 => M.pure (.nx (setW (setW ρ i (.lst (xs.set n1 d1))) i (.lst ((xs.set n1 d1).set n2 d2)))) := by
  obtain ⟨te1, e1, e1'⟩ := he1
  obtain ⟨te2, e2, e2'⟩ := he2
  obtain ⟨tk1, k1, k1'⟩ := hk1
  obtain ⟨tk2, k2, k2'⟩ := hk2
  obtain ⟨xn1, px1, rfl, hx1⟩ := var_of hN hs hv1
  obtain ⟨xn2, px2, rfl, hx2⟩ := var_of hN hs hv2
  have hw : swappedStores [.Tuple [.Subscript (.Name xn1 px1) y1 pa, .Subscript (.Name xn2 px2) y2 pb] kt pt] (.Tuple [v1, v2] kv pv) X.env = pure none := by
    refine sw_of (sc := sc) hs (by rw [← hs]; exact g.kind) ?_
    unfold swO
    have i1 : isStar v1 = false := by cases v1 <;> first | rfl | cases n1
    have i2 : isStar v2 = false := by cases v2 <;> first | rfl | cases n2
    rw [if_neg (by simp), if_neg (by simp [i1, i2]), if_pos (by simp [swN])]
  refine ⟨_, ps_asg (pe_tupF (pa_cons e1 (pa_cons e2 pa_nil (star_cons n2)) (star_cons n1))) (pg_tup (n := 2) g.calm (pgs_cons (pg_sub hx1 k1 set_list (asg_sub hy1)) (pgs_cons (pg_sub hx2 k2 set_list (asg_sub hy2)) pgs_nil rfl) rfl) rfl rfl) rfl hw rfl, fun σ H G ρ c D G0 H0 P hP r p => ?_⟩
  refine e1' σ H G ρ c _ r.at_ (PostS.bind r hP p fun d1 c1 u1 H1 G1 z1 r1 q1 p1 => ?_)
  refine e2' σ H1 G1 ρ c1 _ r1.at_ (PostS.bind r1 hP p1 fun d2 c2 u2 H2 G2 z2 r2 q2 p2 => ?_)
  refine ⟨by show 2 ≤ sizeLine; decide, fun q o hq ho => ?_⟩
  obtain ⟨xs, ex, p3⟩ := p2.lift
  have r3 := r2.go hP (Ext.made (o := .frz o (.tup [u1, u2])) hq) (r2.at_.trk.made hq) (r2.at_.cup.made hq)
  have d1' := Den.stay (Ext.made (o := .frz o (.tup [u1, u2])) hq).stb _ _ (Den.stay z2.stb _ _ q1)
  have d2' := Den.stay (Ext.made (o := .frz o (.tup [u1, u2])) hq).stb _ _ q2
  obtain ⟨o1, a, vs, o2, o3, o4, o5⟩ := own_at r3 ex
  refine ⟨q, _, rfl, sqT upd_same, rfl, u1, _, rfl, _, o2, k1' σ _ G2 ρ c2 _ r3.at_ (PostS.bind r3 hP p3 fun j1 c4 w1 H4 G4 z4 r4 q4 p4 => ?_)⟩
  obtain ⟨ji, ej, p5⟩ := p4.lift
  obtain ⟨n, en, p6⟩ := p5.lift
  cases j1 <;> simp [asInt] at ej
  subst ej
  cases show w1 = .int _ from q4
  obtain ⟨_, a', vs', o2', o3', o4', o5'⟩ := own_at r4 ex
  rw [o2] at o2'; cases o2'
  have r5 := r4.mut hP o1 o2 o3' (o5'.set n (Den.stay z4.stb _ _ d1'))
  have st5 : Stb G4 H4 G4 (upd H4 a (.lst (vs'.set n u1))) := ⟨fun b o h _ m => by rw [upd_ne (fun z => m (by rw [z]; exact .inl o3'))]; exact h, fun b h => .inl h, fun b h => h, live_upd (by exact True.intro)⟩
  have d2'' := Den.stay st5 _ _ (Den.stay z4.stb _ _ d2')
  refine ⟨a, vs', _, n, rfl, rfl, o4', by rw [o5'.length]; exact en, u2, _, rfl, _, o2, k2' σ _ G4 _ c4 _ r5.at_ (PostS.bind r5 hP p6 fun j2 c6 w2 H6 G6 z6 r6 q6 p7 => ?_)⟩
  obtain ⟨ji2, ej2, p8⟩ := p7.lift
  obtain ⟨m, em, p9⟩ := p8.lift
  cases j2 <;> simp [asInt] at ej2
  subst ej2
  cases show w2 = .int _ from q6
  have iL : i < ρ.length := by
    rcases Nat.lt_or_ge i ρ.length with z | z
    · exact z
    · rw [List.getElem?_eq_none z] at o1; cases o1
  have o6 : (setW ρ i (.lst (xs.set n d1)))[i]? = some (some (.ow (.lst (xs.set n d1)))) := by unfold setW; exact List.getElem?_set_self iL
  obtain ⟨w, w1, w2⟩ := r6.at_.ow i _ o6
  rw [o2] at w1; cases w1
  obtain ⟨b, ws, eb, b1, b2, b3⟩ := w2
  cases eb
  exact ⟨a, ws, _, m, rfl, rfl, b2, by rw [b3.length, List.length_set]; exact em, rfl, p9 _ _ _ (r6.mut hP o6 o2 b1 (b3.set m (Den.stay z6.stb _ _ d2'')))⟩
theorem ss_cupS {i k : Nat} {x v : Expr} {j : Int} {kk : Nat} {pk p2 pos : Pos} {mv : PF.Env → M D} (g : GoodS kin T Φ X W) (hN : X.N = N) (hs : X.env.scope = sc) (hv : varB N sc x i = true) (hj : j = (k : Int)) (hk2 : k < 2) (hc : nComp v = true) (he : SE X W v mv) :
    SS X W (.Assign [.Subscript x (.Constant (.int j) kk pk) p2] v pos) fun ρ => M.bind (mv ρ) fun d => M.bind (M.lift (asInt d)) fun j => match getV ρ i with
      | some .cup => M.bind (setCup k j) fun _ => M.pure (.nx ρ)
      | _ => M.stuck := by
  obtain ⟨te, e1, e2⟩ := he
  obtain ⟨xn, px, rfl, hx⟩ := var_of hN hs hv
  obtain ⟨s1, s2⟩ := sole_sub (x := .Name xn px) (y := .Constant (.int j) kk pk) (p := p2) (l := pos.line) (env := X.env) hc
  refine ⟨_, ps_asg e1 (pg_sub hx pe_int set_list) s1 s2 rfl, fun σ H G ρ c D G0 H0 P hP r p => ?_⟩
  refine e2 σ H G ρ c _ r.at_ (PostS.bind r hP p fun d c1 u H1 G1 x1 r1 q1 p1 => ?_)
  obtain ⟨ji, ej, p2⟩ := p1.lift
  cases d <;> simp [asInt] at ej
  subst ej
  cases show u = .int _ from q1
  have eg : getV ρ i = some .cup := by
    cases eg : getV ρ i with
    | none => rw [eg] at p2; exact (p2 : False).elim
    | some z => cases z <;> first | rfl | (rw [eg] at p2; exact (p2 : False).elim)
  rw [eg] at p2
  · skip
    obtain ⟨w, w1, w2⟩ := r1.at_.sh i _ (getV_some eg)
    obtain ⟨a, rfl, ga⟩ := w2
    have qc := r1.at_.cup
    cases c1 with
    | none => exact (p2 : False).elim
    | some pr =>
      obtain ⟨y0, y1⟩ := pr
      obtain ⟨b, gb, hb⟩ := qc
      rw [ga] at gb; cases gb
      subst hj
      have key : ∀ (n0 n1 : Int), RS X.K G0 H0 P G1 (upd H1 a (.lst [.int n0, .int n1])) σ ρ (some (n0, n1)) := fun n0 n1 => by
        have st : Stb G1 H1 G1 (upd H1 a (.lst [.int n0, .int n1])) := ⟨fun b o h _ m => by rw [upd_ne (fun z => m (by rw [z]; exact .inr ga))]; exact h, fun b h => .inl h, fun b h => h, live_upd (by exact True.intro)⟩
        refine ⟨⟨fun j d h => ?_, fun j d h => ?_, ⟨fun b hB z => ?_, r1.at_.trk.apart, r1.at_.trk.tb.upd hb True.intro⟩, ⟨a, ga, upd_same⟩, r1.at_.len, r1.at_.tq⟩, r1.trk0, ⟨fun b o h k m => ?_, r1.ext.cup, r1.ext.new, r1.ext.sub, r1.ext.add, fun b m z => ?_, r1.ext.tt⟩, r1.fresh, r1.inj, hP _ _ _ _ r1.pred st⟩
        · obtain ⟨w, h1, h2⟩ := r1.at_.sh j d h
          exact ⟨w, h1, Den.stay st _ _ h2⟩
        · obtain ⟨w, h1, h2⟩ := r1.at_.ow j d h
          obtain ⟨b', eb', hB', _⟩ := h2.ref
          refine ⟨w, h1, h2.stb st (fun _ _ h => h) fun b eb => upd_ne fun z => ?_⟩
          rw [eb'] at eb
          cases eb
          exact r1.at_.trk.apart _ hB' (by rw [z]; exact ga)
        · exact live_upd (by exact True.intro) b (r1.at_.trk.there b hB) z
        · by_cases e : b = a
          · subst e
            rcases r1.ext.new b ga with z | z
            · exact absurd z m
            · rw [nh_some h k] at z; cases z
          · rw [upd_ne e]; exact r1.ext.keep b o h k m
        · exact live_upd (by exact True.intro) b (r1.ext.live b m) z
      have hk : k = 0 ∨ k = 1 := by omega
      rcases hk with rfl | rfl
      · exact ⟨.ref a, w1, a, _, 0, 0, rfl, rfl, hb, rfl, p2 _ _ _ (key _ _)⟩
      · exact ⟨.ref a, w1, a, _, 1, 1, rfl, rfl, hb, rfl, p2 _ _ _ (key _ _)⟩
end
end PF
end

/-! ## PfS19 -/
section
/-! PfS19: all statements. -/
set_option linter.all false
set_option autoImplicit false
set_option maxHeartbeats 1000000
namespace PF
open PySem L2
section
variable {X : Cx} {W : WX} {sc : Scope} {T : Tab} {N : List Str} {kin : Nat → Str → Option Str} {Φ : Orc}
theorem sw_none {v : Expr} {l : Nat} {env : PySem.Env} (h : nComp v = true) : swapsWith v none l env = pure false := by
  cases v <;> first | rfl | cases h
theorem ss_ex {v : Expr} {pos : Pos} {m : PF.Env → M D} (hc : nComp v = true) (he : SE X W v m) : SS X W (.Expr v pos) fun ρ => M.bind (m ρ) fun _ => M.pure (.nx ρ) := by
  obtain ⟨te, e1, e2⟩ := he
  exact ⟨_, ps_expr e1 (sw_none hc), fun σ H G ρ c D G0 H0 P hP r p => e2 σ H G ρ c _ r.at_ (PostS.bind r hP p fun d c1 u H1 G1 x1 r1 q1 p1 => p1 _ _ _ r1)⟩
theorem ss_ret {v : Expr} {pos : Pos} {m : PF.Env → M D} (he : SE X W v m) : SS X W (.Return (some v) pos) fun ρ => M.bind (m ρ) fun d => M.pure (.rt d) := by
  obtain ⟨te, e1, e2⟩ := he
  exact ⟨_, ps_ret e1, fun σ H G ρ c D G0 H0 P hP r p => e2 σ H G ρ c _ r.at_ (PostS.bind r hP p fun d c1 u H1 G1 x1 r1 q1 p1 => p1 _ _ _ r1.ext r1.at_.trk r1.at_.cup q1)⟩
theorem ss_retN {pos : Pos} : SS X W (.Return none pos) fun _ => M.pure (.rt .non) :=
  ⟨_, ps_retN, fun σ H G ρ c D G0 H0 P hP r p => p _ _ _ r.ext r.at_.trk r.at_.cup rfl⟩
theorem ss_pass {pos : Pos} : SS X W (.Pass pos) fun ρ => M.pure (.nx ρ) := ⟨_, ps_pass, fun σ H G ρ c D G0 H0 P hP r p => p _ _ _ r⟩
theorem ss_brk {pos : Pos} : SS X W (.Break pos) fun ρ => M.pure (.bk ρ) := ⟨_, ps_break, fun σ H G ρ c D G0 H0 P hP r p => p _ _ _ r⟩
theorem ss_cont {pos : Pos} : SS X W (.Continue pos) fun ρ => M.pure (.ct ρ) := ⟨_, ps_continue, fun σ H G ρ c D G0 H0 P hP r p => p _ _ _ r⟩
theorem ss_ite {v : Expr} {x y : List Stmt} {pos : Pos} {mc : PF.Env → M Bool} {ma mb : PF.Env → M Out} (hc : ST X W v mc) (ha : SSs X W x ma) (hb : SSs X W y mb) : SS X W (.If v x y pos) fun ρ => M.bind (mc ρ) fun k => if k then ma ρ else mb ρ := by
  obtain ⟨tc, c1, c2⟩ := hc
  obtain ⟨ta, a1, a2⟩ := ha
  obtain ⟨tb, b1, b2⟩ := hb
  refine ⟨_, ps_if c1 a1 b1, fun σ H G ρ c D G0 H0 P hP r p => ?_⟩
  refine c2 σ H G ρ c _ r.at_ (PostS.bind r hP p fun d c1 u H1 G1 x1 r1 q1 p1 => ?_)
  cases show u = d from q1
  cases d with
  | true => exact a2 σ H1 G1 ρ c1 D G0 H0 P hP r1 p1
  | false => exact b2 σ H1 G1 ρ c1 D G0 H0 P hP r1 p1
theorem Stb.trans' {G1 G G' : Gh} {H1 H H' : Hp} (a : Stb G1 H1 G H) (b : Stb G H G' H') : Stb G1 H1 G' H' := a.trans b
theorem ss_for {t : Tg} {tg iter : Expr} {body : List Stmt} {pos : Pos} {mi : PF.Env → M (List D)} {mb : PF.Env → M Out} {gg : TG} (g : GoodS kin T Φ X W) (hg : PG X tg gg) (hk : GOk X.K t gg) (hs : nset iter = true) (hi : SI X W t tg iter mi) (hb : SSs X W body mb) :
    SS X W (.For tg iter body [] pos) fun ρ => M.bind (mi ρ) fun xs => forGo t mb xs ρ := by
  obtain ⟨wi, i1, i2⟩ := hi
  obtain ⟨tb, b1, b2⟩ := hb
  refine ⟨_, ps_for g.pass g.calm i1 hg b1 (fold_plain hs), fun σ H G ρ c D G0 H0 P hP r p => ?_⟩
  refine i2 σ H G ρ c _ r.at_ (PostS.bind r hP p fun ds c1 J H1 G1 e1 r1 wk p1 => ?_)
  let P' : Gh → Hp → Prop := fun G' H' => P G' H' ∧ Stb G1 H1 G' H'
  have hP' : Keeps P' := fun Ga Ha Gb Hb h s => ⟨hP _ _ _ _ h.1 s, h.2.trans s⟩
  let Wst : Nat → Nat → L2.St → Hp → Prop := fun i m σ' H' => m = ds.length - i ∧ i ≤ ds.length ∧ ∃ G' ρ' c', RS X.K G0 H0 P' G' H' σ' ρ' c' ∧ PostS X W G0 H0 P (forGo t mb (ds.drop i) ρ' c') D
  refine ⟨Wst, ⟨_, rfl, Nat.zero_le _, G1, ρ, c1, r1.weak (fun h => ⟨h, (Ext.refl G1 H1).stb⟩), p1⟩, ?_⟩
  rintro i m σ' H' ⟨rfl, hile, G', ρ', c', r', p'⟩
  by_cases hil : i < ds.length
  · refine .inr ⟨wk.go i G' H' r'.pred.2 hil, fun σ'' H'' => Wst (i + 1) (ds.length - (i + 1)) σ'' H'', fun σ'' H'' h => ⟨_, by omega, h⟩, fun x H2 y => ?_⟩
    obtain ⟨e2, t2, q2, d, hd, hw⟩ := wk.yld i G' H' x H2 c' r'.pred.2 r'.at_.trk r'.at_.cup hil y
    have hdrop : ds.drop i = d :: ds.drop (i + 1) := by
      rw [List.drop_eq_getElem_cons hil]
      rw [List.getElem?_eq_getElem hil] at hd
      cases hd; rfl
    rw [hdrop] at p'
    simp only [forGo] at p'
    obtain ⟨ρ2, eb, p2⟩ := p'.lift
    have r2 := r'.go hP' e2 t2 q2
    refine hk σ' H2 G' ρ' c' x d ρ2 _ r2.at_ (hw ρ' ρ2 eb) eb fun σ3 a' o' l' => ?_
    refine b2 σ3 H2 G' ρ2 c' _ G0 H0 P' hP' (r2.bindT eb a' o') ?_
    unfold M.bind at p2
    cases eo : mb ρ2 c' with
    | ok o c3 =>
      rw [eo] at p2
      cases o with
      | nx ρ3 => exact fun σ4 H4 G4 r4 => ⟨rfl, hil, G4, ρ3, c3, r4, p2⟩
      | ct ρ3 => exact fun σ4 H4 G4 r4 => ⟨rfl, hil, G4, ρ3, c3, r4, p2⟩
      | bk ρ3 => exact fun σ4 H4 G4 r4 => p2 σ4 H4 G4 (r4.weak (·.1))
      | rt d => exact p2
    | exc k c3 => rw [eo] at p2; exact p2
    | stuck => rw [eo] at p2; exact p2.elim
  · refine .inl ⟨wk.stop i G' H' r'.pred.2 (by omega), ?_⟩
    rw [List.drop_eq_nil_of_le (by omega)] at p'
    exact p' _ _ _ (r'.weak (·.1))
theorem ss_whl {v : Expr} {body : List Stmt} {pos : Pos} {mc : PF.Env → M Bool} {mb : PF.Env → M Out} (n : Nat) (g : GoodS kin T Φ X W) (hc : ST X W v mc) (hb : SSs X W body mb) :
    SS X W (.While v body [] pos) fun ρ => whlGo mc mb n ρ := by
  obtain ⟨tc, c1, c2⟩ := hc
  obtain ⟨tb, b1, b2⟩ := hb
  refine ⟨_, ps_while g.pass c1 b1, fun σ H G ρ c D G0 H0 P hP r p => ?_⟩
  refine ⟨fun m σ' H' => ∃ G' ρ' c', RS X.K G0 H0 P G' H' σ' ρ' c' ∧ PostS X W G0 H0 P (whlGo mc mb m ρ' c') D, ⟨n, G, ρ, c, r, p⟩, ?_⟩
  rintro m σ' H' ⟨G', ρ', c', r', p'⟩
  cases m with
  | zero => exact p'.elim
  | succ m =>
    simp only [whlGo] at p'
    refine c2 σ' H' G' ρ' c' _ r'.at_ (PostS.bind r' hP p' fun d c1 u H1 G1 x1 r1 q1 p1 => ?_)
    cases show u = d from q1
    cases d with
    | false => exact p1 _ _ _ r1
    | true =>
      rw [if_pos rfl]
      rw [if_pos rfl] at p1
      refine ⟨fun σ'' H'' => ∃ G' ρ' c', RS X.K G0 H0 P G' H'' σ'' ρ' c' ∧ PostS X W G0 H0 P (whlGo mc mb m ρ' c') D, fun σ'' H'' h => ⟨m, by omega, h⟩, ?_⟩
      refine b2 σ' H1 G1 ρ' c1 _ G0 H0 P hP r1 ?_
      unfold M.bind at p1
      cases eo : mb ρ' c1 with
      | ok o c3 =>
        rw [eo] at p1
        cases o with
        | nx ρ3 => exact fun σ4 H4 G4 r4 => ⟨G4, ρ3, c3, r4, p1⟩
        | ct ρ3 => exact fun σ4 H4 G4 r4 => ⟨G4, ρ3, c3, r4, p1⟩
        | bk ρ3 => exact fun σ4 H4 G4 r4 => p1 σ4 H4 G4 r4
        | rt d => exact p1
      | exc k c3 => rw [eo] at p1; exact p1
      | stuck => rw [eo] at p1; exact p1.elim
theorem ss_rse {x : Str} {m : Str} {j : Nat} {p p2 cp pos : Pos} (g : GoodS kin T Φ X W) (hg : Gl X x) (hn : nd x = true) (hx : ExcOk X x) : SS X W (.Raise (some (.Call (.Name x p) [.Constant (.str m) j p2] [] cp)) none pos) fun _ => M.exc x := by
  obtain ⟨C, h1, h2⟩ := hx
  refine ⟨_, ps_raise g.calm g.takes (h2 m j p p2 cp hg hn), fun σ H G ρ c D G0 H0 P hP r q => ?_⟩
  exact q (.ref C) none σ H G r.ext r.at_.trk r.at_.cup ⟨h1, fun _ => rfl⟩
theorem ss_share {i : Nat} {st : Stmt} {m : PF.Env → M Out} (h : SS X W st m) : SS X W st fun ρ => M.bind (M.lift (getO ρ i)) fun d => m (setS ρ i d) := by
  obtain ⟨t, h1, h2⟩ := h
  refine ⟨t, h1, fun σ H G ρ c D G0 H0 P hP r p => ?_⟩
  obtain ⟨d, ed, p⟩ := p.lift
  obtain ⟨G', r'⟩ := r.give hP (getO_some ed)
  exact h2 σ H G' _ c D G0 H0 P hP r' p
theorem sss_nil : SSs X W [] fun ρ => M.pure (.nx ρ) := ⟨_, pss_nil, fun σ H G ρ c D G0 H0 P hP r p => p _ _ _ r⟩
theorem sss_cons {st : Stmt} {rest : List Stmt} {m1 m2 : PF.Env → M Out} (h1 : SS X W st m1) (h2 : SSs X W rest m2) : SSs X W (st :: rest) fun ρ => M.bind (m1 ρ) fun o => match o with
    | .nx ρ' => m2 ρ'
    | o => M.pure o := by
  obtain ⟨t, a1, a2⟩ := h1
  obtain ⟨u, b1, b2⟩ := h2
  refine ⟨_, pss_cons a1 b1, fun σ H G ρ c D G0 H0 P hP r p => ?_⟩
  refine a2 σ H G ρ c _ G0 H0 P hP r ?_
  unfold M.bind at p
  dsimp only at p
  cases eo : m1 ρ c with
  | ok o c3 =>
    rw [eo] at p
    cases o with
    | nx ρ3 => exact fun σ4 H4 G4 r4 => b2 σ4 H4 G4 ρ3 c3 D G0 H0 P hP r4 p
    | ct ρ3 => exact p
    | bk ρ3 => exact p
    | rt d => exact p
  | exc k c3 => rw [eo] at p; exact p
  | stuck => rw [eo] at p; exact p.elim
mutual
theorem sndS (g : GoodS kin T Φ X W) (hN : X.N = N) (hs : X.env.scope = sc) : ∀ (s : PF.St) (st : Stmt), chkS T N sc s st = true → SS X W st (evS kin Φ s)
  | .asg own i e, st, h => snd_asg g hN hs own i e st h
  | .par is es, st, h => snd_par g hN hs is es st h
  | .unp t e, st, h => by
    simp only [chkS] at h
    split at h
    · simp only [Bool.and_eq_true] at h
      obtain ⟨⟨⟨h0, h1⟩, h2⟩, h3⟩ := h
      refine ss_unp g hN hs ?_ h1 h3 (sndE e X W sc _ g.toGood hN hs h2)
      split at h0
      · exact ⟨_, _, _, rfl⟩
      · cases h0
    · cases h
  | .app i e, st, h => by
    simp only [chkS] at h
    split at h
    · simp only [Bool.and_eq_true, decide_eq_true_eq] at h
      obtain ⟨⟨⟨⟨⟨h0, h1⟩, h2⟩, h3⟩, h4⟩, h5⟩ := h
      subst h1
      exact ss_app g hN hs h0 h2 h4 (sndE e X W sc _ g.toGood hN hs h3)
    · cases h
  | .setO i k e, st, h => by
    simp only [chkS] at h
    split at h
    · simp only [Bool.and_eq_true] at h
      obtain ⟨⟨⟨⟨h0, h1⟩, h2⟩, h3⟩, h4⟩ := h
      exact ss_setO g hN hs h0 h4 h3 (sndE k X W sc _ g.toGood hN hs h1) (sndE e X W sc _ g.toGood hN hs h2)
    · cases h
  | .dset i k e, st, h => by
    simp only [chkS] at h
    split at h
    · simp only [Bool.and_eq_true] at h
      obtain ⟨⟨⟨⟨h0, h1⟩, h2⟩, h3⟩, h4⟩ := h
      exact ss_dset g hN hs h0 h4 h3 (sndE k X W sc _ g.toGood hN hs h1) (sndE e X W sc _ g.toGood hN hs h2)
    · cases h
  | .swp i k1 k2 e1 e2, st, h => by
    simp only [chkS] at h
    split at h
    · simp only [Bool.and_eq_true] at h
      obtain ⟨⟨⟨⟨⟨⟨⟨⟨⟨h0, h1⟩, h2⟩, h3⟩, h4⟩, h5⟩, h6⟩, h7⟩, h8⟩, h9⟩ := h
      exact ss_swp g hN hs h0 h1 h6 h7 h8 h9 (sndE k1 X W sc _ g.toGood hN hs h2) (sndE k2 X W sc _ g.toGood hN hs h3) (sndE e1 X W sc _ g.toGood hN hs h4) (sndE e2 X W sc _ g.toGood hN hs h5)
    · cases h
  | .cupS i k e, st, h => by
    simp only [chkS] at h
    split at h
    · simp only [Bool.and_eq_true, decide_eq_true_eq] at h
      obtain ⟨⟨⟨⟨h0, h1⟩, h2⟩, h3⟩, h4⟩ := h
      exact ss_cupS g hN hs h0 h1 h2 h4 (sndE e X W sc _ g.toGood hN hs h3)
    · cases h
  | .ex e, st, h => by
    simp only [chkS] at h
    split at h
    · simp only [Bool.and_eq_true] at h
      exact ss_ex h.2 (sndE e X W sc _ g.toGood hN hs h.1)
    · cases h
  | .ret e, st, h => by
    simp only [chkS] at h
    split at h
    · exact ss_ret (sndE e X W sc _ g.toGood hN hs h)
    · cases h
  | .retN, st, h => by
    simp only [chkS] at h
    split at h
    · exact ss_retN
    · cases h
  | .ite c a b, st, h => by
    simp only [chkS] at h
    split at h
    · simp only [Bool.and_eq_true] at h
      exact ss_ite (sndT c X W sc _ g.toGood hN hs h.1.1) (sndSs g hN hs a _ h.1.2) (sndSs g hN hs b _ h.2)
    · cases h
  | .for t it b, st, h => by
    simp only [chkS] at h
    split at h
    · simp only [Bool.and_eq_true] at h
      obtain ⟨⟨⟨h1, h2⟩, h3⟩, h4⟩ := h
      obtain ⟨g1, g2⟩ := tg_def g hN hs h1
      exact ss_for g g1 g2 h3 (sndI it t _ X W sc _ _ g.toGood hN hs h2 h1) (sndSs g hN hs b _ h4)
    · cases h
  | .whl n c b, st, h => by
    simp only [chkS] at h
    split at h
    · simp only [Bool.and_eq_true] at h
      exact ss_whl n g (sndT c X W sc _ g.toGood hN hs h.1) (sndSs g hN hs b _ h.2)
    · cases h
  | .rse k, st, h => by
    simp only [chkS] at h
    split at h
    · simp only [Bool.and_eq_true, decide_eq_true_eq] at h
      obtain ⟨⟨⟨h1, h2⟩, h3⟩, h4⟩ := h
      subst h1
      exact ss_rse g (gl_of hs h2) h3 (g.exc _ h4)
    · cases h
  | .pass, st, h => by
    simp only [chkS] at h
    split at h
    · exact ss_pass
    · cases h
  | .brk, st, h => by
    simp only [chkS] at h
    split at h
    · exact ss_brk
    · cases h
  | .cont, st, h => by
    simp only [chkS] at h
    split at h
    · exact ss_cont
    · cases h
  | .share i s, st, h => by
    simp only [chkS] at h
    exact ss_share (sndS g hN hs s st h)
  | .tryR _ _ _, st, h => by simp [chkS] at h
theorem sndSs (g : GoodS kin T Φ X W) (hN : X.N = N) (hs : X.env.scope = sc) : ∀ (ss : PF.Sts) (sts : List Stmt), chkSs T N sc ss sts = true → SSs X W sts (evSs kin Φ ss)
  | .nil, sts, h => by
    simp only [chkSs] at h
    split at h
    · exact sss_nil
    · cases h
  | .cons s ss, sts, h => by
    simp only [chkSs] at h
    split at h
    · simp only [Bool.and_eq_true] at h
      exact sss_cons (sndS g hN hs s _ h.1) (sndSs g hN hs ss _ h.2)
    · cases h
end
end
end PF
end

/-! ## PfS20 -/
section
/-! PfS20: a def keeps the promise of its meaning. -/
set_option linter.all false
set_option autoImplicit false
set_option maxHeartbeats 1000000
namespace PF
open PySem L2
structure ExcFact (K : PySem.W.Frag) (mg : Str → Option Value) (x : Str) : Prop where
  ex : ∃ (C : Addr) (bmB : List Value) (B newId initId : String), ExcBaseFacts B newId initId bmB ∧ PySem.W.excIn K C bmB newId = true ∧ mg x = some (.ref C) ∧ PySem.W.keepIn K (.ref C) = true ∧
    PySem.W.subIn K (.ref C) (.type "BaseException") = some true ∧ PySem.W.typeIn K (.ref C) = some (.type "type")
structure ModT (T : Tab) (K : PySem.W.Frag) (mg : Str → Option Value) : Prop where
  blt : ∀ x, T.blts.contains x = true → mg x = none
  const : ∀ x k, T.consts.lookup x = some k → ∃ u, mg x = some u ∧ RelV (kV k) u
  exc : ∀ x, T.excs.contains x = true → ExcFact K mg x
theorem ExcFact.ok {X : Cx} {x : Str} (h : ExcFact X.K X.mg x) : ExcOk X x := by
  obtain ⟨C, bmB, B, newId, initId, F, q, gC, kC, exC, tyC⟩ := h
  refine ⟨C, gC, fun m j p p2 pos hg hn => pmk_own F q gC kC (raises_own exC tyC) hg ?_⟩
  unfold nd at hn
  simpa using hn
section
variable {P : Program} {w : World} {K : PySem.W.Frag} {mg : Str → Option Value} {base : Heap} {T : Tab} {Φ : Orc} {kin : Nat → Str → Option Str}
theorem start_at {G : Gh} {H : Hp} {c : Cup} {N : List Str} {vs : List V} {ds : List D} {n : Nat} (hn : N.length = n) (hd : DenL K G H vs ds) (hl : ds.length ≤ n) (t : Trk G H) (q : CupR G H c) (tq : G.T = tabK K) : RS K G H (fun _ _ => True) G H (L2.start N vs) (PF.start n ds) c := by
  have hlen := hd.length
  have noOw : ∀ (j : Nat) (e : D), (PF.start n ds)[j]? ≠ some (some (.ow e)) := fun j e h => by
    unfold PF.start at h
    rw [List.getElem?_append] at h
    split at h
    · rw [List.getElem?_map] at h
      cases e2 : ds[j]? with
      | none => rw [e2] at h; cases h
      | some z => rw [e2] at h; cases h
    · rw [List.getElem?_replicate] at h
      split at h <;> cases h
  refine ⟨⟨fun j e h => ?_, fun j e h => absurd h (noOw j e), t, q, ?_, tq⟩, t, Ext.refl G H, fun j e a h _ => absurd h (noOw j e), fun i j d e a _ h _ _ _ => absurd h (noOw i d), True.intro⟩
  · unfold PF.start at h
    rw [List.getElem?_append] at h
    split at h
    · rename_i hj
      rw [List.getElem?_map] at h
      cases e2 : ds[j]? with
      | none => rw [e2] at h; cases h
      | some z =>
        rw [e2] at h
        simp only [Option.map_some, Option.some.injEq, Sl.sh.injEq] at h
        subst h
        obtain ⟨v, h1, h2⟩ := hd.get e2
        refine ⟨v, ?_, h2⟩
        unfold L2.start
        have hv : j < vs.length := (List.getElem?_eq_some_iff.mp h1).1
        rw [List.getElem?_append_left (by simpa using hv), List.getElem?_map, h1]
        rfl
    · rw [List.getElem?_replicate] at h
      split at h <;> cases h
  · unfold PF.start L2.start
    simp only [List.length_append, List.length_map, List.length_replicate]
    omega
theorem fn_ok {x qual : Str} {st : Stmt} {f : Addr} {fd : FuncData} {N ps : List Str} {k : Nat} {fn : Fn} (M0 : ModT T K mg) (F : L2.Fun K x qual st f fd) (S : FnScope N ps (defScope st)) (hps : ps.length = fn.ar) (hn : N.length = fn.n) (hle : fn.ar ≤ fn.n)
    (hcall : ∀ g y n, T.fn g = some (y, n) → Callee P w K mg base k y n (Φ g)) (hk : chkSs T N (defScope st) fn.body (defBody st) = true)
    (hlam : T.lam = true → ∀ (cdv : Value) (A : Around) (outer : List PySem.Env) (s : Shared) (H : Hp) (E : XK), fd.code = cdv → Room k (A.deeper (PyProof.Rows.envOfC qual (defScope st) s.heap.objs.size f cdv)) → LamOk kin T Φ (cxOf (L2.CX P w) P w K mg base N qual (defScope st) f cdv A outer s H E)) : FnOk P w K mg base (L2.CX P w) (k + 1) f fd ps (spF K mg (evF kin Φ fn)) := by
  obtain ⟨oc, od, kV, doc, pm, an, cdv, ct, osl, rfl, lk, hcd⟩ := F.ex
  refine fn_of lk hcd S (fun vs H Q E h => ?_) fun A outer s H vs Q E hr h => ?_
  · obtain ⟨G, ds, c, hd, t, q, tq, h⟩ := h
    have hl : ds.length = fn.ar := by
      refine Decidable.byContradiction fun z => ?_
      unfold evF at h
      rw [if_neg z] at h
      exact h
    rw [hd.length, hl, hps]
  · obtain ⟨G, ds, c, hd, t, q, tq, h⟩ := h
    have hl : ds.length = fn.ar := by
      refine Decidable.byContradiction fun z => ?_
      unfold evF at h
      rw [if_neg z] at h
      exact h
    unfold evF at h
    rw [if_pos hl] at h
    have tk := takes_of (X := cxOf (L2.CX P w) P w K mg base N qual (defScope st) f cdv A outer s H E) (E := E) rfl rfl rfl rfl
    have g : GoodS kin T Φ (cxOf (L2.CX P w) P w K mg base N qual (defScope st) f cdv A outer s H E) (fun cls d _ H => E cls d H) :=
      { calm := rfl, nd := S.nd, units := by have := hr.un; show (A.deeper (PyProof.Rows.envOfC qual (defScope st) s.heap.objs.size f cdv)).units + 65 < cLine; omega, blt := M0.blt, const := M0.const
        call := fun g y n e => by
          obtain ⟨f', fd', ps', h1, h2, h3, h4, h5⟩ := (hcall g y n e).ex
          exact ⟨k, f', fd', ps', h1, hr, h2, h3, h4, h5⟩
        takes := tk, pass := passes_of rfl, fnAll := fun _ => rfl, kind := S.kind, exc := fun y hy => (M0.exc y hy).ok, lam := fun h => (hlam h) cdv A outer s H E rfl hr }
    obtain ⟨tt, p1, p2⟩ := sndSs (kin := kin) g rfl rfl fn.body (defBody st) hk
    refine ⟨tt, p1, p2 _ H G _ c _ G H (fun _ _ => True) (fun _ _ _ _ _ _ => True.intro) (start_at hn hd (by omega) t q tq) ?_⟩
    unfold M.bind at h
    cases eo : evSs kin Φ fn.body (PF.start fn.n ds) c with
    | ok o c2 =>
      rw [eo] at h
      cases o with
      | nx ρ => exact fun σ2 H2 G2 r2 => h .non H2 G2 r2.ext r2.at_.trk r2.at_.cup rfl
      | rt d => exact fun v H2 G2 e2 t2 q2 d2 => h v H2 G2 e2 t2 q2 d2
      | bk ρ => exact h.elim
      | ct ρ => exact h.elim
    | exc kk c2 =>
      rw [eo] at h
      exact fun cv dx σ2 H2 G2 e2 t2 q2 hk2 => h cv dx H2 G2 e2 t2 q2 hk2
    | stuck => rw [eo] at h; exact h.elim
end
end PF
end

/-! ## PfE -/
section
/-! PfE: the head's facts; the end of a law. -/
set_option linter.all false
set_option autoImplicit false
set_option maxHeartbeats 1000000
namespace PF
open PySem L2 LamX L2H PyProof.Rows
/-! ### what the head is asked -/
/-- a code object and its table -/
def codeP (K : PySem.W.Frag) (cdv : Value) : Addr × Addr := match cdv with
  | .ref c => (match K.lookup c with
    | some ⟨_, _, .fields vs, _⟩ => (match (vs[11]? : Option Value) with
      | some (.ref P) => (c, P)
      | _ => (0, 0))
    | _ => (0, 0))
  | _ => (0, 0)
/-- the code object of the def "law", and its table -/
def lawC (K : PySem.W.Frag) : Addr × Addr := match K.lookup (He.ga K "law") with
  | some ⟨_, _, .func fd, _⟩ => codeP K fd.code
  | _ => (0, 0)
theorem codeP_of {K : PySem.W.Frag} {cdv : Value} {c P : Addr} (e : codeP K cdv = (c, P)) (hne : c ≠ P) : cdv = .ref c ∧ ∃ (oc : Obj) (vs : Array Value), K.lookup c = some oc ∧ oc.data = .fields vs ∧ vs[11]? = some (.ref P) := by
  unfold codeP at e
  split at e
  · split at e
    · rename_i y1 y2 vs y3 q3
      split at e
      · rename_i P' q4
        cases e
        exact ⟨rfl, _, vs, q3, rfl, q4⟩
      · cases e; exact absurd rfl hne
    · cases e; exact absurd rfl hne
  · cases e; exact absurd rfl hne
def cutK (K : PySem.W.Frag) (P : Addr) : PySem.W.Frag := K.filter fun q => !(q.1 == P)
theorem cutK_at {P a : Addr} {o : Obj} : ∀ {K : PySem.W.Frag}, (cutK K P).lookup a = some o → K.lookup a = some o ∧ a ≠ P
  | [], h => by simp [cutK] at h
  | (b, ob) :: r, h => by
    have ih := @cutK_at P a o r
    unfold cutK at h ih
    rw [List.filter_cons] at h
    cases hb : (b == P) with
    | true =>
      rw [hb] at h
      simp only [Bool.not_true, Bool.false_eq_true, if_false] at h
      obtain ⟨h1, h2⟩ := ih h
      refine ⟨?_, h2⟩
      have : (a == b) = false := by
        have e : b = P := by simpa using hb
        subst e
        simpa using h2
      rw [List.lookup_cons, this]
      exact h1
    | false =>
      rw [hb] at h
      simp only [Bool.not_false, if_true] at h
      rw [List.lookup_cons] at h ⊢
      cases q : (a == b) with
      | true =>
        rw [q] at h
        refine ⟨h, ?_⟩
        have e : a = b := by simpa using q
        subst e
        simpa using hb
      | false =>
        rw [q] at h
        exact ih h
def kinRunB (K : PySem.W.Frag) (C : Addr) : List (Str × Str) → Str × Str × Str → Str → Bool
  | [], l, w => (He.Fa.glo l.1).ok K && (match PySem.W.kitOne K (.ref C) (.ref (He.ga K l.1)) with
    | some b => decide (w = if b = true then l.2.1 else l.2.2)
    | none => false)
  | c :: r, l, w => (He.Fa.glo c.1).ok K && (match PySem.W.kitOne K (.ref C) (.ref (He.ga K c.1)) with
    | some true => decide (w = c.2)
    | some false => kinRunB K C r l w
    | none => false)
def excCB (K : PySem.W.Frag) (D : Addr) : Bool :=
  He.eqO (PySem.W.findIn K (.ref D) "__getattribute__") (some (some (.builtin "BaseException.__getattribute__"))) && He.eqO (PySem.W.findIn K (.ref D) "__getattr__") (some none) &&
  decide (PySem.W.subIn K (.ref D) (.type "BaseException") = some true) && PySem.W.hasDictIn K D && He.eqO (PySem.W.findIn K (.ref D) "__class__") (some (some (.builtin "object.__class__"))) &&
  He.eqO (PySem.W.specialIn K (.builtin "object.__class__") "__get__") (some (some (.builtin "getset_descriptor.__get__"))) && decide (PySem.W.takesIn K (.builtin "object.__class__") = some true) && decide (PySem.W.mroIn K D (.type "object") = some true)
theorem excCB_ok {K : PySem.W.Frag} {D : Addr} (h : excCB K D = true) : ExcC K D := by
  unfold excCB at h
  simp only [Bool.and_eq_true, decide_eq_true_eq] at h
  obtain ⟨⟨⟨⟨⟨⟨⟨h1, h2⟩, h3⟩, h4⟩, h5⟩, h6⟩, h7⟩, h8⟩ := h
  exact ⟨He.eqO_ok h1, He.eqO_ok h2, h3, h4, He.eqO_ok h5, He.eqO_ok h6, h7, h8⟩
def kinOkB (K : PySem.W.Frag) (ch : List (Str × Str)) (l : Str × Str × Str) (q : Str × Str) : Bool :=
  (He.Fa.glo q.1).ok K && (excCB K (He.ga K q.1) && (decide (PySem.W.exmOne K (.ref (He.ga K q.1)) (.ref (He.ga K "OnceError")) = some true) && kinRunB K (He.ga K q.1) ch l q.2))
section
variable {K : PySem.W.Frag} {h : Heap} {mg : Str → Option Value} {ch : List (Str × Str)} {l : Str × Str × Str}
theorem kinRunB_ok (X : K.In h) (G : h.Ns mainGlobals mg) {C : Addr} : ∀ (ch : List (Str × Str)) (w : Str), kinRunB K C ch l w = true → kinRun K mg C ch l w
  | [], w, e => by
    simp only [kinRunB, Bool.and_eq_true] at e
    obtain ⟨e1, e2⟩ := e
    cases q : PySem.W.kitOne K (.ref C) (.ref (He.ga K l.1)) with
    | none => rw [q] at e2; cases e2
    | some b =>
      rw [q] at e2
      exact ⟨_, b, He.glo_ok X G e1, q, by simpa using e2⟩
  | c :: r, w, e => by
    simp only [kinRunB, Bool.and_eq_true] at e
    obtain ⟨e1, e2⟩ := e
    cases q : PySem.W.kitOne K (.ref C) (.ref (He.ga K c.1)) with
    | none => rw [q] at e2; cases e2
    | some b =>
      rw [q] at e2
      refine ⟨_, b, He.glo_ok X G e1, q, ?_⟩
      cases b with
      | true =>
        rw [if_pos rfl]
        simpa using e2
      | false =>
        rw [if_neg Bool.false_ne_true]
        exact kinRunB_ok X G r w e2
theorem kinOkB_ok (X : K.In h) (G : h.Ns mainGlobals mg) {q : Str × Str} (e : kinOkB K ch l q = true) : mg q.1 = some (.ref (He.ga K q.1)) ∧ KinOk K mg (He.ga K "OnceError") ch l (He.ga K q.1) q.2 := by
  unfold kinOkB at e
  simp only [Bool.and_eq_true, decide_eq_true_eq] at e
  obtain ⟨e1, e2, e3, e4⟩ := e
  exact ⟨He.glo_ok X G e1, ⟨excCB_ok e2, e3, kinRunB_ok X G ch q.2 e4⟩⟩
end
/-- what a law's head is asked -/
structure Ask where
  consts : List (Str × Int)
  blts : List Str
  excs : List Str
  fn : List He.DefD
  ch : List (Str × Str)
  l : Str × Str × Str
  ws : List (Str × Str)
def Ask.okB (A : Ask) (K : PySem.W.Frag) : Bool := (A.consts.all fun q => (He.Fa.int q.1 q.2).ok K) && ((A.blts.all fun x => (He.Fa.free x).ok K) && ((A.excs.all fun x => (He.Fa.glo x).ok K && (He.Fa.exc x).ok K) &&
  ((A.fn.all fun d => (He.Fa.glo d.at_.1).ok K && d.ok K) && ((A.ws.all fun q => !(q.1 == ("TooMany" : Str)) && kinOkB K A.ch A.l q) && (He.Fa.glo "OnceError").ok K))))
structure Ask.Ok (A : Ask) (K : PySem.W.Frag) : Prop where
  consts : ∀ q ∈ A.consts, (He.Fa.int q.1 q.2).ok K = true
  blts : ∀ x ∈ A.blts, (He.Fa.free x).ok K = true
  excs : ∀ x ∈ A.excs, (He.Fa.glo x).ok K = true ∧ (He.Fa.exc x).ok K = true
  fn : ∀ d ∈ A.fn, (He.Fa.glo d.at_.1).ok K = true ∧ d.ok K = true
  ws : ∀ q ∈ A.ws, q.1 ≠ ("TooMany" : Str) ∧ kinOkB K A.ch A.l q = true
  once : (He.Fa.glo "OnceError").ok K = true
theorem Ask.ok_of {A : Ask} {K : PySem.W.Frag} (h : A.okB K = true) : A.Ok K := by
  unfold Ask.okB at h
  simp only [Bool.and_eq_true] at h
  obtain ⟨h1, h2, h3, h4, h5, h6⟩ := h
  refine ⟨fun q hq => List.all_eq_true.mp h1 q hq, fun q hq => List.all_eq_true.mp h2 q hq, fun q hq => ?_, fun q hq => ?_, fun q hq => ?_, h6⟩
  · exact Bool.and_eq_true_iff.mp (List.all_eq_true.mp h3 q hq)
  · exact Bool.and_eq_true_iff.mp (List.all_eq_true.mp h4 q hq)
  · have z := Bool.and_eq_true_iff.mp (List.all_eq_true.mp h5 q hq)
    exact ⟨by simpa using z.1, z.2⟩
abbrev AskV : Type := Bool × List He.FnW
def Ask.obsK (A : Ask) (K : PySem.W.Frag) (c P : Addr) (T : Option Obj) : AskV :=
  (A.okB K && (PySem.W.codeHdIn K c P && (decide (lawC K = (c, P)) && (match T with
    | some ⟨.none, none, .fields vs, sl⟩ => vs.isEmpty && sl.isEmpty
    | _ => false))), A.fn.map fun d => He.fnW K d.at_)
def Ask.obs2 (A : Ask) (g : Addr → Option Obj) (K0 : PySem.W.Frag) (cp : Addr × Addr) : AskV := A.obsK (cutK K0 cp.2) cp.1 cp.2 (g cp.2)
def Ask.obs1 (A : Ask) (g : Addr → Option Obj) (K0 : PySem.W.Frag) : AskV := A.obs2 g K0 (lawC K0)
def Ask.obsG (A : Ask) (n : Nat) (g : Addr → Option Obj) : AskV := A.obs1 g (He.frG g (He.asD g n))
def Ask.val (A : Ask) : AskV := (true, A.fn.map He.DefD.val)
structure Ask.Says (A : Ask) (K : PySem.W.Frag) (c P : Addr) (h : Heap) : Prop where
  kin : K.In h
  nP : K.lookup P = none
  hP : h.get? P = some { cls := .none, data := .fields #[] }
  hd : PySem.W.codeHdIn K c P = true
  law : lawC K = (c, P)
  ok : A.okB K = true
  fns : A.fn.map (fun d => He.fnW K d.at_) = A.fn.map He.DefD.val
theorem cutK_in {K : PySem.W.Frag} {P : Addr} {h : Heap} (X : K.In h) : (cutK K P).In h := fun a o e => X a o (cutK_at e).1
theorem cutK_none {K : PySem.W.Frag} {P : Addr} : (cutK K P).lookup P = none := by
  cases e : (cutK K P).lookup P with
  | none => rfl
  | some o => exact absurd rfl (cutK_at e).2
theorem Ask.says_of {A : Ask} {n : Nat} {h : Heap} (e : A.obsG n h.get? = A.val) : ∃ K c P, A.Says K c P h := by
  have e1 : A.obsK (cutK (He.frG h.get? (He.asD h.get? n)) (lawC (He.frG h.get? (He.asD h.get? n))).2) (lawC (He.frG h.get? (He.asD h.get? n))).1 (lawC (He.frG h.get? (He.asD h.get? n))).2 (h.get? (lawC (He.frG h.get? (He.asD h.get? n))).2) = A.val := e
  generalize hK : cutK (He.frG h.get? (He.asD h.get? n)) (lawC (He.frG h.get? (He.asD h.get? n))).2 = K at e1
  generalize hP : (lawC (He.frG h.get? (He.asD h.get? n))).2 = P at e1 hK
  generalize hc : (lawC (He.frG h.get? (He.asD h.get? n))).1 = c at e1
  have z1 := congrArg (fun z : AskV => z.1) e1
  have z2 : A.fn.map (fun d => He.fnW K d.at_) = A.fn.map He.DefD.val := congrArg (fun z : AskV => z.2) e1
  have z3 : (A.okB K && (PySem.W.codeHdIn K c P && (decide (lawC K = (c, P)) && (match h.get? P with
    | some ⟨.none, none, .fields vs, sl⟩ => vs.isEmpty && sl.isEmpty
    | _ => false)))) = true := z1
  simp only [Bool.and_eq_true, decide_eq_true_eq] at z3
  obtain ⟨a1, a2, a3, a4⟩ := z3
  refine ⟨K, c, P, by rw [← hK]; exact cutK_in He.frG_in, by rw [← hK]; exact cutK_none, ?_, a2, a3, a1, z2⟩
  split at a4
  · rename_i vs sl q
    rw [q]
    simp only [Bool.and_eq_true] at a4
    obtain ⟨b1, b2⟩ := a4
    rw [Array.isEmpty_iff.mp b1, Array.isEmpty_iff.mp b2]
  · cases a4
theorem Ask.Says.keeps {A : Ask} {K : PySem.W.Frag} {c P : Addr} {h h' : Heap} (s : A.Says K c P h) (k : ∀ b o, h.get? b = some o → h'.get? b = some o) : A.Says K c P h' :=
  ⟨PySem.W.Frag.In.keeps s.kin k, s.nP, k _ _ s.hP, s.hd, s.law, s.ok, s.fns⟩
def Ask.hook (A : Ask) (n : Nat) : PySem.W.Hook where
  α := AskV
  obs := fun s => A.obsG n s.heap.get?
  val := fun _ => A.val
  says := fun _ h => ∃ K c P, A.Says K c P h
  of := fun _ _ e => Ask.says_of e
  keeps := fun _ _ _ ⟨K, c, P, s⟩ k => ⟨K, c, P, s.keeps k⟩
def Ask.obT (A : Ask) (n : Nat) (s : PySem.W.SharedT) : AskV := A.obsG n (HandSHeadRun.getT s)
theorem Ask.obT_eq {A : Ask} {n : Nat} (s : PySem.W.SharedT) : A.obT n s = (A.hook n).obs s.abs := by
  have e : HandSHeadRun.getT s = s.abs.heap.get? := funext (HandSHeadRun.getT_eq s)
  show A.obsG n (HandSHeadRun.getT s) = A.obsG n s.abs.heap.get?
  rw [e]
/-! ### reading the facts -/
theorem Ask.Says.o {A : Ask} {K : PySem.W.Frag} {c P : Addr} {h : Heap} (s : A.Says K c P h) : A.Ok K := Ask.ok_of s.ok
theorem Ask.Says.def_ {A : Ask} {K : PySem.W.Frag} {c P : Addr} {h : Heap} (s : A.Says K c P h) (i : Nat) {d : He.DefD} (e : A.fn[i]? = some d) : ∃ fd, FunD K d.name d.qual d.params d.body d.scope (d.dvs K) (d.kws K) (He.fAd K d.at_) fd := by
  have e2 : (A.fn.map fun d => He.fnW K d.at_)[i]? = (A.fn.map He.DefD.val)[i]? := by rw [s.fns]
  rw [List.getElem?_map, List.getElem?_map, e] at e2
  exact He.DefD.funD (Option.some.inj e2) (s.o.fn d (List.mem_of_getElem? e)).2
/-- a def of the top, under the name x -/
def dD (x : Str) (q : Str) (st : Stmt) : He.DefD := ⟨(x, none), q, q, defArgs st, defBody st, defScope st, [], []⟩
/-- a def and all that is known of it -/
structure DefOk (K : PySem.W.Frag) (mg : Str → Option Value) (x q : Str) (st : Stmt) (ps : List Str) (f : Addr) (fd : FuncData) : Prop where
  fn : L2.Fun K q q st f fd
  gl : mg x = some (.ref f)
  bd : L2.Binds K fd ps []
theorem funD_fun {K : PySem.W.Frag} {q : Str} {st : Stmt} {f : Addr} {fd : FuncData} (F : FunD K q q (defArgs st) (defBody st) (defScope st) [] [] f fd) : L2.Fun K q q st f fd := by
  obtain ⟨⟨oc, od, dV, kV, doc, pm, an, cdv, ct, osl, e, lk, hcd, hD, hK⟩, kp⟩ := F
  rcases hD with ⟨_, rfl⟩ | ⟨z, _⟩
  · exact ⟨⟨oc, od, kV, doc, pm, an, cdv, ct, osl, e, lk, hcd⟩, kp⟩
  · exact absurd rfl z
abbrev BindsOk (q : Str) (st : Stmt) (ps : List Str) : Prop := ∀ (kV doc pm : Value) (an : Option Addr) (cdv ct : Value) (us : List Value), us.length = ps.length → bindArgs (PySem.W.fnOf q q (defArgs st) (defBody st) (defScope st) .none kV doc pm an cdv ct) ⟨us, []⟩ = pure (ps.zip us)
theorem Ask.Says.defOk {A : Ask} {K : PySem.W.Frag} {c P : Addr} {h : Heap} {mg : Str → Option Value} (s : A.Says K c P h) (G : h.Ns mainGlobals mg) (i : Nat) {x q : Str} {st : Stmt} {ps : List Str} (e : A.fn[i]? = some (dD x q st)) (hb : BindsOk q st ps) : ∃ fd, DefOk K mg x q st ps (He.ga K x) fd := by
  obtain ⟨fd, F⟩ := s.def_ i e
  have F' := funD_fun (q := q) (st := st) F
  exact ⟨fd, F', He.glo_ok s.kin G (s.o.fn _ (List.mem_of_getElem? e)).1, F'.binds hb⟩
/-- what a def's text may name -/
def Ask.tab (A : Ask) (cs : List (Str × Nat)) (lam : Bool) : Tab := ⟨fun g => cs[g]?, A.consts.map fun q => (q.1, .int q.2), A.blts, A.excs, lam⟩
theorem lookup_mem {α : Type} : ∀ {l : List (Str × α)} {x : Str} {k : α}, l.lookup x = some k → (x, k) ∈ l
  | [], _, _, h => by cases h
  | (y, v) :: r, x, k, h => by
    rw [List.lookup_cons] at h
    cases q : (x == y) with
    | true =>
      rw [q] at h
      have e : x = y := by simpa using q
      cases h
      rw [e]
      exact List.mem_cons_self
    | false =>
      rw [q] at h
      exact List.mem_cons_of_mem _ (lookup_mem h)
theorem Ask.Says.modT {A : Ask} {K : PySem.W.Frag} {c P : Addr} {h : Heap} {mg : Str → Option Value} (s : A.Says K c P h) (G : h.Ns mainGlobals mg) (cs : List (Str × Nat)) (lam : Bool) : ModT (A.tab cs lam) K mg where
  blt := fun x hx => He.free_ok s.kin G (s.o.blts x (by simpa [Ask.tab] using hx))
  const := fun x k hx => by
    have m := lookup_mem (show (A.consts.map fun q => (q.1, Kst.int q.2)).lookup x = some k from hx)
    obtain ⟨q, hq, e⟩ := List.mem_map.mp m
    cases e
    obtain ⟨t, ht⟩ := He.int_ok s.kin G (s.o.consts q hq)
    exact ⟨_, ht, ⟨t, rfl⟩⟩
  exc := fun x hx => by
    obtain ⟨m1, m2⟩ := s.o.excs x (by simpa [Ask.tab] using hx)
    obtain ⟨h1, h2, h3, h4⟩ := He.exc_ok m2
    exact ⟨_, _, _, _, _, PySem.F.excBase_ValueError, h1, He.glo_ok s.kin G m1, h2, h3, h4⟩
/-! ### the defs -/
section
variable {Pr : Program} {w : World} {K : PySem.W.Frag} {mg : Str → Option Value} {base : Heap} {T : Tab} {Φ : Orc} {kin : Nat → Str → Option Str}
theorem Callee.mono {j k n : Nat} {x : Str} {m : List D → M D} (C : Callee Pr w K mg base j x n m) (h : j ≤ k) : Callee Pr w K mg base k x n m := by
  obtain ⟨f, fd, ps, h1, r⟩ := C.ex
  exact ⟨f, fd, ps, h1.mono h, r⟩
/-- the defs that a def calls -/
def CallsOk (C : Str → Nat → (List D → M D) → Prop) (Φ : Orc) : List (Str × Nat) → Nat → Prop
  | [], _ => True
  | (y, n) :: r, i => C y n (Φ i) ∧ CallsOk C Φ r (i + 1)
theorem CallsOk.at_ {C : Str → Nat → (List D → M D) → Prop} {Φ : Orc} : ∀ {cs : List (Str × Nat)} {i g : Nat} {y : Str} {n : Nat}, CallsOk C Φ cs i → cs[g]? = some (y, n) → C y n (Φ (i + g))
  | [], i, g, y, n, _, e => by simp at e
  | (z, m) :: r, i, 0, y, n, h, e => by
    simp at e
    obtain ⟨rfl, rfl⟩ := e
    exact h.1
  | (z, m) :: r, i, g + 1, y, n, h, e => by
    have q := CallsOk.at_ (g := g) h.2 (by simpa using e)
    rw [show i + (g + 1) = i + 1 + g by omega]
    exact q
/-- a def without lambdas -/
theorem callee_mk {A : Ask} {x q : Str} {st : Stmt} {f : Addr} {fd : FuncData} {N ps : List Str} {k : Nat} {fn : Fn} {cs : List (Str × Nat)} (M0 : ModT (A.tab cs false) K mg) (D : DefOk K mg x q st ps f fd) (S : FnScope N ps (defScope st)) (hps : ps.length = fn.ar) (hn : N.length = fn.n) (hle : fn.ar ≤ fn.n)
    (hcall : CallsOk (Callee Pr w K mg base k) Φ cs 0) (hk : chkSs (A.tab cs false) N (defScope st) fn.body (defBody st) = true) : Callee Pr w K mg base (k + 1) x fn.ar (evF kin Φ fn) :=
  ⟨f, fd, ps, PF.fn_ok M0 D.fn S hps hn hle (fun g y n e => by have z := hcall.at_ e; rw [Nat.zero_add] at z; exact z) hk (fun z => by cases z), D.gl, D.fn.kp, D.bd, hps⟩
/-- what stops is never called -/
theorem callee_stuck {x q : Str} {st : Stmt} {f : Addr} {fd : FuncData} {ps : List Str} {k : Nat} (D : DefOk K mg x q st ps f fd) : Callee Pr w K mg base k x ps.length (fun _ => M.stuck) :=
  ⟨f, fd, ps, ⟨fun vs H Q E h => by obtain ⟨_, _, _, _, _, _, _, z⟩ := h; exact z.elim, fun A outer s H args us vs Q E _ _ _ _ h => by obtain ⟨_, _, _, _, _, _, _, z⟩ := h; exact z.elim⟩, D.gl, D.fn.kp, D.bd, rfl⟩
end
/-! ### the end -/
theorem walk_ofTsE {l : PySem.W.OpenLaw} {n k : Nat} {q : Program} {loose : List Str} {XP : (Str → Option Value) → Heap → Prop} {YP : World → Heap → Prop} {d : DefRec} {CX : World → CXT} {x : Str}
    (hn : l.most = some n) (hn2 : n ≤ sizeLine) (hdf : d.params.defaults = []) (hr : Room k callerA)
    (F : ∀ (w : World) (mg : Str → Option Value) (fa : Addr) (h : Heap), YP w h → h.Ns mainGlobals mg → mg d.name = some (.ref fa) → ∃ K : PySem.W.Frag, K.In h ∧ LawAtS l w K (CX w) k n x mg fa h)
    (hCX : ∀ (w : World) (H : Hp) (s : Shared) (e : Value) (s' : Shared), CX w [] H s (fun _ _ _ => False) e s' → False) :
    PySem.W.WalkO q loose XP YP l.row.toRowW d [] (fun f vs => PySem.call f vs) := by
  refine Att.attach_callB hn hdf fun w s₀ s₁ mg mb fa o pm cd doc a vs ns G Y ho hd hcd hmg hobj hints hlen hbits hg => ?_
  obtain ⟨K, KX, fd, cs, sp, hT, nT, C, hb, hsp, hF⟩ := F w mg fa _ Y G.T.g hmg
  exact law_callTs KX G.T.g G.T.b G.T.builtins G.T.nolimit hg hT nT C G.T.bmain hobj hints (Nat.le_trans hlen hn2) hr hF hb (fun H hH hS => hsp H a ns hlen hbits hH hS) fun H e s' => hCX w H s₁ e s'
/-- the ghost at the start -/
noncomputable def G0 (K : PySem.W.Frag) : Gh := ⟨none, fun _ => False, tabK K⟩
theorem codeHd_ne {K : PySem.W.Frag} {c P : Addr} (hd : PySem.W.codeHdIn K c P = true) : c ≠ P := by
  unfold PySem.W.codeHdIn at hd
  split at hd
  · simp only [Bool.and_eq_true] at hd
    intro z
    rw [z] at hd
    simp at hd
  · cases hd
theorem lamP_of {K : PySem.W.Frag} {c P : Addr} (g : PySem.W.nsIn K mainGlobals "law" = some (some (.ref (He.ga K "law")))) (e : lawC K = (c, P)) (hd : PySem.W.codeHdIn K c P = true) : LamP K P := by
  unfold lawC at e
  have hne : c ≠ P := codeHd_ne hd
  split at e
  · rename_i x1 x2 fd x3 q1
    obtain ⟨h1, oc, vs, h2, h3, h4⟩ := codeP_of e hne
    exact ⟨_, c, _, oc, fd, vs, g, q1, rfl, h1, h2, h3, h4⟩
  · cases e; exact absurd rfl hne
theorem law_code {K : PySem.W.Frag} {c P : Addr} {q : Str} {st : Stmt} {fd : FuncData} (F : L2.Fun K q q st (He.ga K "law") fd) (e : lawC K = (c, P)) (hne : c ≠ P) : fd.code = .ref c := by
  obtain ⟨oc, od, kV, doc, pm, an, cdv, ct, osl, rfl, lk, hcd⟩ := F.ex
  unfold lawC at e
  rw [lk] at e
  exact (codeP_of (K := K) (cdv := cdv) e hne).1
section
variable {Pr : Program} {w : World} {K : PySem.W.Frag} {mg : Str → Option Value} {base h : Heap} {Φ : Orc} {A : Ask} {c P : Addr}
/-- what the law's own text needs: _law_try and _law_kin -/
structure TryOk (K : PySem.W.Frag) (mg : Str → Option Value) (ch : List (Str × Str)) (l : Str × Str × Str) : Prop where
  t : ∃ (st : Stmt) (fd : FuncData), DefOk K mg "_law_try" "_law_try" st ["_law_call_so"] (He.ga K "_law_try") fd ∧ FnScope tryN ["_law_call_so"] (defScope st) ∧ chkTry (defScope st) (defBody st) = true
  k : KinFn K mg "_law_kin" ch l
theorem tryOk_mk {stT stK : Stmt} {Nk : List Str} (s : A.Says K c P h) (G : h.Ns mainGlobals mg) (i j : Nat) (ei : A.fn[i]? = some (dD "_law_try" "_law_try" stT)) (ej : A.fn[j]? = some (dD "_law_kin" "_law_kin" stK)) (bT : BindsOk "_law_try" stT ["_law_call_so"]) (bK : BindsOk "_law_kin" stK ["_law_e"])
    (ST : FnScope tryN ["_law_call_so"] (defScope stT)) (SK : FnScope Nk ["_law_e"] (defScope stK)) (hN : Nk[0]? = some ("_law_e" : Str)) (cT : chkTry (defScope stT) (defBody stT) = true) (cK : chkKin (defScope stK) "_law_e" A.ch A.l (defBody stK) = true) (hi : ("isinstance" : Str) ∈ A.blts) : TryOk K mg A.ch A.l := by
  obtain ⟨fdT, DT⟩ := s.defOk G i ei bT
  obtain ⟨fdK, DK⟩ := s.defOk G j ej bK
  exact ⟨⟨stT, fdT, DT, ST, cT⟩, ⟨⟨_, stK, _, fdK, Nk, "_law_e", _, DK.fn, SK, hN, DK.gl, DK.fn.kp, DK.bd, cK⟩, He.free_ok s.kin G (s.o.blts _ hi)⟩⟩
/-- the law's def -/
theorem law_mk {stL : Stmt} {fd : FuncData} {N : List Str} {k : Nat} {fn : Fn} {cs : List (Str × Nat)} (s : A.Says K c P h) (G : h.Ns mainGlobals mg) (TB : TabB base mg c P) (T0 : TryOk K mg A.ch A.l) (D : DefOk K mg "law" "law" stL ["_law_script"] (He.ga K "law") fd) (S : FnScope N ["_law_script"] (defScope stL)) (hps : 1 = fn.ar) (hn : N.length = fn.n) (hle : fn.ar ≤ fn.n)
    (hcall : CallsOk (Callee Pr w K mg base (k + 1)) Φ cs 0) (hk : chkSs (A.tab cs true) N (defScope stL) fn.body (defBody stL) = true) (hnl : PySem.W.nsIn K mainGlobals "law" = some (some (.ref (He.ga K "law")))) : FnOk Pr w K mg base (L2.CX Pr w) (k + 4) (He.ga K "law") fd ["_law_script"] (spF K mg (evF (kinW A.ws) Φ fn)) := by
  have hc : ∀ g y n, cs[g]? = some (y, n) → Callee Pr w K mg base (k + 1) y n (Φ g) := fun g y n e => by have z := hcall.at_ e; rw [Nat.zero_add] at z; exact z
  refine PF.fn_ok (k := k + 3) (s.modT G cs true) D.fn S hps hn hle (fun g y n e => (hc g y n e).mono (by omega)) hk fun _ cdv B outer sh H E ecd hr => ?_
  obtain ⟨stT, fdT, DT, ST, cT⟩ := T0.t
  have hcode : fd.code = .ref c := law_code D.fn s.law (codeHd_ne s.hd)
  rw [hcode] at ecd
  subst ecd
  have hP := lamP_of hnl s.law s.hd
  exact ⟨k, _, He.ga K "OnceError", c, P, stT, fdT, A.ch, A.l, DT.fn, ST, DT.gl, DT.fn.kp, DT.bd, cT, T0.k, He.glo_ok s.kin G s.o.once, TB, rfl, tabK_of hP, hr, fun _ n z cv e hm => by
    obtain ⟨h1, h2⟩ := s.o.ws (n, z) (lookup_mem e)
    obtain ⟨h3, h4⟩ := kinOkB_ok s.kin G h2
    have hm2 : mg n = some cv := hm
    have h3 : mg n = _ := h3
    rw [hm2] at h3
    exact ⟨h1, _, Option.some.inj h3, h4⟩, hc⟩
/-- the law's def, without lambdas -/
theorem law_mk0 {stL : Stmt} {fd : FuncData} {N : List Str} {k : Nat} {fn : Fn} {cs : List (Str × Nat)} (s : A.Says K c P h) (G : h.Ns mainGlobals mg) (D : DefOk K mg "law" "law" stL ["_law_script"] (He.ga K "law") fd) (S : FnScope N ["_law_script"] (defScope stL)) (hps : 1 = fn.ar) (hn : N.length = fn.n) (hle : fn.ar ≤ fn.n)
    (hcall : CallsOk (Callee Pr w K mg base (k + 1)) Φ cs 0) (hk : chkSs (A.tab cs false) N (defScope stL) fn.body (defBody stL) = true) : FnOk Pr w K mg base (L2.CX Pr w) (k + 4) (He.ga K "law") fd ["_law_script"] (spF K mg (evF (kinW A.ws) Φ fn)) :=
  PF.fn_ok (k := k + 3) (s.modT G cs false) D.fn S hps hn hle (fun g y n e => (by have z := hcall.at_ e; rw [Nat.zero_add] at z; exact z.mono (by omega))) hk fun z => by cases z
end
/-- the promise of the law's def -/
theorem sp_law {K : PySem.W.Frag} {mg : Str → Option Value} {m : List D → M D} {H : Hp} {a P : Addr} {ns : List Int} {b : Cup} (hm : m [.scr ns] none = .ok (.bl true) b) (hP : LamP K P) (hH : H P = some (.tbl #[])) (hS : SqL K H a (ns.map V.int)) :
    spF K mg m [.ref a] H (fun v _ => v = .bl true) (fun _ _ _ => False) := by
  refine ⟨G0 K, [.scr ns], none, ⟨?_, True.intro⟩, ⟨fun _ z => z.elim, fun _ z => z.elim, ⟨?_⟩⟩, rfl, rfl, ?_⟩
  · refine ⟨a, rfl, ?_⟩
    have nF : ¬ (G0 K).F a := fun z => z.elim (fun z => z) (fun z => nomatch z)
    rcases hS with (h | ⟨o, h⟩) | h
    · exact .inl ⟨.lst (ns.map V.int), nF, True.intro, h, fun H' h' => .inl (.inl h')⟩
    · exact .inl ⟨.frz o (.lst (ns.map V.int)), nF, True.intro, h, fun H' h' => .inl (.inr ⟨o, h'⟩)⟩
    · exact .inr fun H' => .inr h
  · intro p hp
    have e : (G0 K).T = [(P, ("law.<locals>.<lambda>" : Str))] := tabK_of hP
    rw [e] at hp
    rw [List.mem_singleton.mp hp]
    exact ⟨#[], hH, True.intro, fun pos cv hc => by cases hc⟩
  · rw [hm]
    exact fun v H' G' _ _ _ h => h
/-- the law, from its def's promise -/
theorem lawAt {l : PySem.W.OpenLaw} {w : World} {A : Ask} {K : PySem.W.Frag} {c P : Addr} {h : Heap} {mg : Str → Option Value} {k : Nat} {stL : Stmt} {m : List D → M D} (s : A.Says K c P h) (G : h.Ns mainGlobals mg) (i : Nat) (ei : A.fn[i]? = some (dD "law" "law" stL)) (bL : BindsOk "law" stL ["_law_script"])
    (ok : ∀ (base : Heap) (fd : FuncData), TabB base mg c P → DefOk K mg "law" "law" stL ["_law_script"] (He.ga K "law") fd → PySem.W.nsIn K mainGlobals "law" = some (some (.ref (He.ga K "law"))) → FnOk l.prog w K mg base (L2.CX l.prog w) k (He.ga K "law") fd ["_law_script"] (spF K mg m))
    (hm : ∀ ns : List Int, ns.length ≤ 63 → ∃ b, m [.scr ns] none = .ok (.bl true) b) {fa : Addr} (hfa : mg "law" = some (.ref fa)) : LawAtS l w K (L2.CX l.prog w) k 63 "_law_script" mg fa h := by
  obtain ⟨fd, D⟩ := s.defOk G i ei bL
  have hnl : PySem.W.nsIn K mainGlobals "law" = some (some (.ref (He.ga K "law"))) := He.eqO_ok (s.o.fn _ (List.mem_of_getElem? ei)).1
  have e := hfa.symm.trans D.gl
  cases e
  have hP := lamP_of hnl s.law s.hd
  refine ⟨fd, [(c, P)], spF K mg m, fun p hp => ?_, fun p hp => ?_, fun p hp => ?_, fun sh u => ?_, fun H a ns hl _ hH hS => ?_, fun base X0 G1 hT => ok base fd (hT _ (List.mem_singleton.mpr rfl)) D hnl⟩
  · rw [List.mem_singleton.mp hp]; exact s.hP
  · rw [List.mem_singleton.mp hp]; exact s.nP
  · rw [List.mem_singleton.mp hp]; exact PySem.W.codeHd_of_K s.kin s.hd
  · obtain ⟨oc, od, kV, doc, pm, an, cdv, ct, osl, rfl, lk, hcd⟩ := D.fn.ex
    exact .of_eq (bL kV doc pm an cdv ct [u] rfl)
  · obtain ⟨b, hb⟩ := hm ns hl
    exact sp_law hb hP (hH _ (List.mem_singleton.mpr rfl)) hS
theorem CX_none {Pr : Program} (w : World) (H : Hp) (s : Shared) (e : Value) (s' : Shared) (h : L2.CX Pr w [] H s (fun _ _ _ => False) e s') : False := by
  obtain ⟨_, _, _, _, _, _, _, _, _, _, _, _, z⟩ := h
  exact z.elim
end PF
end

/-! ## PfM -/
section
/-! PfM: reckoning with the evaluator. -/
set_option linter.all false
set_option autoImplicit false
namespace PF
open PySem
/-! ### M -/
section
variable {α β : Type}
@[simp] theorem bind_app (m : M α) (f : α → M β) (c : Cup) : M.bind m f c = match m c with
  | .ok a c => f a c
  | .exc k c => .exc k c
  | .stuck => .stuck := rfl
@[simp] theorem pure_app (a : α) (c : Cup) : M.pure a c = .ok a c := rfl
@[simp] theorem exc_app (k : Str) (c : Cup) : (M.exc k : M α) c = .exc k c := rfl
@[simp] theorem lift_some (a : α) : M.lift (some a) = M.pure a := rfl
@[simp] theorem ite_app (p : Prop) [Decidable p] (m m' : M α) (c : Cup) : (if p then m else m') c = if p then m c else m' c := by split <;> rfl
@[simp] theorem nox_app (m : M α) (c : Cup) : M.nox m c = match m c with
  | .exc _ _ => .stuck
  | r => r := rfl
@[simp] theorem withCup_app (f : Cup → Option α) (c : Cup) : withCup f c = match f c with
  | some a => .ok a c
  | none => .stuck := rfl
end
/-! ### the evaluator's equations -/
section
variable {kin : Nat → Str → Option Str} {Φ : Orc}
@[simp] theorem evE_eq (e : Ex) (ρ : Env) : evE kin Φ e ρ = (evP kin Φ e).1 ρ := rfl
@[simp] theorem evT_eq (e : Ex) (ρ : Env) : evT kin Φ e ρ = (evP kin Φ e).2 ρ := rfl
@[simp] theorem dfl1 (e : Ex) (f : Env → M D) : (dfl e f).1 = f := rfl
@[simp] theorem dfl2 (e : Ex) (f : Env → M D) (ρ : Env) : (dfl e f).2 ρ = M.bind (bor ρ (f ρ) e) fun x => M.lift (truth x) := rfl
@[simp] theorem bor_var (ρ : Env) (r : M D) (i : Nat) : bor ρ r (.var i) = M.lift (getB ρ i) := rfl
@[simp] theorem bor_cst (ρ : Env) (r : M D) (k : Kst) : bor ρ r (.cst k) = r := rfl
@[simp] theorem bor_glb (ρ : Env) (r : M D) (x : Str) (k : Kst) : bor ρ r (.glb x k) = r := rfl
@[simp] theorem bor_bin (ρ : Env) (r : M D) (o : Bop) (a b : Ex) : bor ρ r (.bin o a b) = r := rfl
@[simp] theorem bor_neg (ρ : Env) (r : M D) (a : Ex) : bor ρ r (.neg a) = r := rfl
@[simp] theorem bor_not (ρ : Env) (r : M D) (a : Ex) : bor ρ r (.not a) = r := rfl
@[simp] theorem bor_cmp (ρ : Env) (r : M D) (o : Cop) (a b : Ex) : bor ρ r (.cmp o a b) = r := rfl
@[simp] theorem bor_chain (ρ : Env) (r : M D) (o p : Cop) (a b c : Ex) : bor ρ r (.chain o p a b c) = r := rfl
@[simp] theorem bor_and (ρ : Env) (r : M D) (a b : Ex) : bor ρ r (.and a b) = r := rfl
@[simp] theorem bor_or (ρ : Env) (r : M D) (a b : Ex) : bor ρ r (.or a b) = r := rfl
@[simp] theorem bor_ite (ρ : Env) (r : M D) (c a b : Ex) : bor ρ r (.ite c a b) = r := rfl
@[simp] theorem bor_tup (ρ : Env) (r : M D) (es : Exs) : bor ρ r (.tup es) = r := rfl
@[simp] theorem bor_lst (ρ : Env) (r : M D) (es : Exs) : bor ρ r (.lst es) = r := rfl
@[simp] theorem bor_idx (ρ : Env) (r : M D) (a b : Ex) : bor ρ r (.idx a b) = r := rfl
@[simp] theorem bor_sl (ρ : Env) (r : M D) (a : Ex) (l h : Opt) : bor ρ r (.sl a l h) = r := rfl
@[simp] theorem bor_lset (ρ : Env) (r : M D) (a : Ex) : bor ρ r (.lset a) = r := rfl
@[simp] theorem bor_dnil (ρ : Env) (r : M D) : bor ρ r .dnil = r := rfl
@[simp] theorem bor_done (ρ : Env) (r : M D) (a b : Ex) : bor ρ r (.done a b) = r := rfl
@[simp] theorem bor_dput (ρ : Env) (r : M D) (a b c : Ex) : bor ρ r (.dput a b c) = r := rfl
@[simp] theorem bor_dtwo (ρ : Env) (r : M D) (a b c d : Ex) : bor ρ r (.dtwo a b c d) = r := rfl
@[simp] theorem bor_dmrg (ρ : Env) (r : M D) (a b : Ex) : bor ρ r (.dmrg a b) = r := rfl
@[simp] theorem bor_step (ρ : Env) (r : M D) (a b : Ex) : bor ρ r (.step a b) = r := rfl
@[simp] theorem bor_call (ρ : Env) (r : M D) (g : Nat) (es : Exs) : bor ρ r (.call g es) = r := rfl
@[simp] theorem bor_blt (ρ : Env) (r : M D) (b : Blt) (es : Exs) : bor ρ r (.blt b es) = r := rfl
@[simp] theorem bor_isi (ρ : Env) (r : M D) (a : Ex) (t : Ty) : bor ρ r (.isi a t) = r := rfl
@[simp] theorem bor_mth (ρ : Env) (r : M D) (m : Mth) (a : Ex) (es : Exs) : bor ρ r (.mth m a es) = r := rfl
@[simp] theorem bor_lc (ρ : Env) (r : M D) (t : Tg) (it : Itr) (e : Ex) : bor ρ r (.lc t it e) = r := rfl
@[simp] theorem bor_lcif (ρ : Env) (r : M D) (t : Tg) (it : Itr) (c e : Ex) : bor ρ r (.lcif t it c e) = r := rfl
@[simp] theorem bor_cup (ρ : Env) (r : M D) (a b : Ex) : bor ρ r (.cup a b) = r := rfl
@[simp] theorem bor_lam (ρ : Env) (r : M D) (f : Nat) (a : Ex) : bor ρ r (.lam f a) = r := rfl
@[simp] theorem bor_trg1 (ρ : Env) (r : M D) (t : Bool) (a : Ex) : bor ρ r (.trg1 t a) = r := rfl
@[simp] theorem bor_trg2 (ρ : Env) (r : M D) (t : Bool) (a b : Ex) : bor ρ r (.trg2 t a b) = r := rfl
@[simp] theorem bor_trg3 (ρ : Env) (r : M D) (a b c : Ex) : bor ρ r (.trg3 a b c) = r := rfl
@[simp] theorem evP_var (i : Nat) : evP kin Φ (.var i) = dfl (.var i) fun ρ => M.lift (getV ρ i) := rfl
@[simp] theorem evP_cst (k : Kst) : evP kin Φ (.cst k) = dfl (.cst k) fun _ => M.pure k.d := rfl
@[simp] theorem evP_glb (x : Str) (k : Kst) : evP kin Φ (.glb x k) = dfl (.glb x k) fun _ => M.pure k.d := rfl
@[simp] theorem evP_bin (op : Bop) (a b : Ex) : evP kin Φ (.bin op a b) = dfl (.bin op a b) fun ρ => M.bind (bor ρ ((evP kin Φ a).1 ρ) a) fun x => M.bind (bor ρ ((evP kin Φ b).1 ρ) b) fun y => M.lift (opB op x y) := rfl
@[simp] theorem evP_neg (a : Ex) : evP kin Φ (.neg a) = dfl (.neg a) fun ρ => M.bind ((evP kin Φ a).1 ρ) fun x => M.bind (M.lift (asInt x)) fun i => M.pure (.int (-i)) := rfl
@[simp] theorem evP_not (a : Ex) : evP kin Φ (.not a) = (fun ρ => M.bind (bor ρ ((evP kin Φ a).1 ρ) a) fun x => M.bind (M.lift (truth x)) fun b => M.pure (.bl (!b)), fun ρ => M.bind ((evP kin Φ a).2 ρ) fun b => M.pure (!b)) := rfl
@[simp] theorem evP_cmp (op : Cop) (a b : Ex) : evP kin Φ (.cmp op a b) = dfl (.cmp op a b) fun ρ => M.bind (bor ρ ((evP kin Φ a).1 ρ) a) fun x => M.bind (bor ρ ((evP kin Φ b).1 ρ) b) fun y => M.bind (M.lift (opC op x y)) fun b => M.pure (.bl b) := rfl
@[simp] theorem evP_chain (o1 o2 : Cop) (a b c : Ex) : evP kin Φ (.chain o1 o2 a b c) = dfl (.chain o1 o2 a b c) fun ρ => M.bind ((evP kin Φ a).1 ρ) fun x => M.bind ((evP kin Φ b).1 ρ) fun y => M.bind (M.lift (opC o1 x y)) fun k =>
      if k then M.bind ((evP kin Φ c).1 ρ) fun z => M.bind (M.lift (opC o2 y z)) fun b => M.pure (.bl b) else M.pure (.bl false) := rfl
@[simp] theorem evP_and (a b : Ex) : evP kin Φ (.and a b) = (fun ρ => M.bind ((evP kin Φ a).1 ρ) fun x => M.bind (M.lift (asBl x)) fun k => if k then (evP kin Φ b).1 ρ else M.pure (.bl false), fun ρ => M.bind ((evP kin Φ a).2 ρ) fun k => if k then (evP kin Φ b).2 ρ else M.pure false) := rfl
@[simp] theorem evP_or (a b : Ex) : evP kin Φ (.or a b) = (fun ρ => M.bind ((evP kin Φ a).1 ρ) fun x => M.bind (M.lift (asBl x)) fun k => if k then M.pure (.bl true) else (evP kin Φ b).1 ρ, fun ρ => M.bind ((evP kin Φ a).2 ρ) fun k => if k then M.pure true else (evP kin Φ b).2 ρ) := rfl
@[simp] theorem evP_ite (c a b : Ex) : evP kin Φ (.ite c a b) = (fun ρ => M.bind ((evP kin Φ c).2 ρ) fun k => if k then (evP kin Φ a).1 ρ else (evP kin Φ b).1 ρ, fun _ => M.stuck) := rfl
@[simp] theorem evP_tup (es : Exs) : evP kin Φ (.tup es) = dfl (.tup es) fun ρ => M.bind (evA kin Φ es ρ) fun ds => M.pure (.tup ds) := rfl
@[simp] theorem evP_lst (es : Exs) : evP kin Φ (.lst es) = dfl (.lst es) fun ρ => M.bind (evA kin Φ es ρ) fun ds => M.pure (.lst ds) := rfl
@[simp] theorem evP_idx (a i : Ex) : evP kin Φ (.idx a i) = dfl (.idx a i) fun ρ => M.bind (bor ρ ((evP kin Φ a).1 ρ) a) fun x => M.bind ((evP kin Φ i).1 ρ) fun y => withCup fun c => opI c x y := rfl
@[simp] theorem evP_sl (a : Ex) (lo hi : Opt) : evP kin Φ (.sl a lo hi) = dfl (.sl a lo hi) fun ρ => M.bind (bor ρ ((evP kin Φ a).1 ρ) a) fun x => M.bind (evO kin Φ lo ρ) fun l => M.bind (evO kin Φ hi ρ) fun h => M.lift (opS x l h) := rfl
@[simp] theorem evP_lset (a : Ex) : evP kin Φ (.lset a) = dfl (.lset a) fun ρ => M.bind (bor ρ ((evP kin Φ a).1 ρ) a) fun x => M.lift (lsetO x) := rfl
@[simp] theorem evP_dnil : evP kin Φ .dnil = dfl .dnil fun _ => M.pure (.dct []) := rfl
@[simp] theorem evP_done (a b : Ex) : evP kin Φ (.done a b) = dfl (.done a b) fun ρ => M.bind ((evP kin Φ a).1 ρ) fun x => M.bind ((evP kin Φ b).1 ρ) fun y => M.lift (dOne x y) := rfl
@[simp] theorem evP_dput (d a b : Ex) : evP kin Φ (.dput d a b) = dfl (.dput d a b) fun ρ => M.bind ((evP kin Φ d).1 ρ) fun z => M.bind (M.lift (dOk z)) fun kvs => M.bind ((evP kin Φ a).1 ρ) fun x => M.bind ((evP kin Φ b).1 ρ) fun y => M.lift (dPutO kvs x y) := rfl
@[simp] theorem evP_dtwo (a b d e : Ex) : evP kin Φ (.dtwo a b d e) = dfl (.dtwo a b d e) fun ρ => M.bind ((evP kin Φ a).1 ρ) fun x => M.bind ((evP kin Φ b).1 ρ) fun y => M.bind ((evP kin Φ d).1 ρ) fun z => M.bind ((evP kin Φ e).1 ρ) fun u => M.lift (dTwo x y z u) := rfl
@[simp] theorem evP_dmrg (d e : Ex) : evP kin Φ (.dmrg d e) = dfl (.dmrg d e) fun ρ => M.bind ((evP kin Φ d).1 ρ) fun z => M.bind (M.lift (dOk z)) fun kvs => M.bind ((evP kin Φ e).1 ρ) fun y => M.lift (dMrg kvs y) := rfl
@[simp] theorem evP_step (a k : Ex) : evP kin Φ (.step a k) = dfl (.step a k) fun ρ => M.bind (bor ρ ((evP kin Φ a).1 ρ) a) fun x => M.bind ((evP kin Φ k).1 ρ) fun y => M.lift (opK x y) := rfl
@[simp] theorem evP_trg2 (t : Bool) (a b : Ex) : evP kin Φ (.trg2 t a b) = dfl (.trg2 t a b) fun ρ => M.bind ((evP kin Φ a).1 ρ) fun x => M.bind ((evP kin Φ b).1 ρ) fun y => M.bind (M.lift (asInt x)) fun i => M.bind (M.lift (asInt y)) fun j => if rngOk i j then M.pure (if t then .tup (rangeD i j) else .lst (rangeD i j)) else M.stuck := rfl
@[simp] theorem evP_trg1 (t : Bool) (a : Ex) : evP kin Φ (.trg1 t a) = dfl (.trg1 t a) fun ρ => M.bind ((evP kin Φ a).1 ρ) fun x => M.bind (M.lift (asInt x)) fun i => if rngOk 0 i then M.pure (if t then .tup (rangeD 0 i) else .lst (rangeD 0 i)) else M.stuck := rfl
@[simp] theorem evP_trg3 (a b c : Ex) : evP kin Φ (.trg3 a b c) = dfl (.trg3 a b c) fun ρ => M.bind ((evP kin Φ a).1 ρ) fun x => M.bind ((evP kin Φ b).1 ρ) fun y => M.bind ((evP kin Φ c).1 ρ) fun z => M.bind (M.lift (asInt x)) fun i => M.bind (M.lift (asInt y)) fun j => M.bind (M.lift (asInt z)) fun k => if rgCOk i j k then M.pure (.tup (rangeC i j k)) else M.stuck := rfl
@[simp] theorem evP_call (g : Nat) (es : Exs) : evP kin Φ (.call g es) = dfl (.call g es) fun ρ => M.bind (evA kin Φ es ρ) fun ds => Φ g ds := rfl
@[simp] theorem evP_blt (b : Blt) (es : Exs) : evP kin Φ (.blt b es) = dfl (.blt b es) fun ρ => M.bind (evB kin Φ es ρ) fun ds => M.lift (opF b ds) := rfl
@[simp] theorem evP_isi (a : Ex) (t : Ty) : evP kin Φ (.isi a t) = dfl (.isi a t) fun ρ => M.bind ((evP kin Φ a).1 ρ) fun x => M.bind (M.lift (ty? x t)) fun b => M.pure (.bl b) := rfl
@[simp] theorem evP_mth (m : Mth) (a : Ex) (es : Exs) : evP kin Φ (.mth m a es) = dfl (.mth m a es) fun ρ => M.bind (bor ρ ((evP kin Φ a).1 ρ) a) fun x => M.bind (M.lift (mthOk m x)) fun _ => M.bind (evA kin Φ es ρ) fun ds => M.lift (opM m x ds) := rfl
@[simp] theorem evP_lc (t : Tg) (it : Itr) (e : Ex) : evP kin Φ (.lc t it e) = dfl (.lc t it e) fun ρ => M.bind (evI kin Φ it ρ) fun xs => M.bind (mapGo (fun x => M.bind (M.lift (bindT t x (wipeE ρ t.slots))) fun ρ' => M.bind (M.nox ((evP kin Φ e).1 ρ')) fun d => M.pure (some d)) xs []) fun ds => M.pure (.lst ds) := rfl
@[simp] theorem evP_lcif (t : Tg) (it : Itr) (c e : Ex) : evP kin Φ (.lcif t it c e) = dfl (.lcif t it c e) fun ρ => M.bind (evI kin Φ it ρ) fun xs => M.bind (mapGo (fun x => M.bind (M.lift (bindT t x (wipeE ρ t.slots))) fun ρ' => M.bind (M.nox ((evP kin Φ c).2 ρ')) fun b =>
      if b then M.bind (M.nox ((evP kin Φ e).1 ρ')) fun d => M.pure (some d) else M.pure none) xs []) fun ds => M.pure (.lst ds) := rfl
@[simp] theorem evP_cup (a b : Ex) : evP kin Φ (.cup a b) = dfl (.cup a b) fun ρ => M.bind ((evP kin Φ a).1 ρ) fun x => M.bind ((evP kin Φ b).1 ρ) fun y => M.bind (M.lift (asInt x)) fun i => M.bind (M.lift (asInt y)) fun j => newCup i j := rfl
@[simp] theorem evP_lam (f : Nat) (e : Ex) : evP kin Φ (.lam f e) = dfl (.lam f e) fun ρ => told kin f ((evP kin Φ e).1 ρ) := rfl
@[simp] theorem evA_nil (ρ : Env) : evA kin Φ .nil ρ = M.pure [] := rfl
@[simp] theorem evA_cons (e : Ex) (es : Exs) (ρ : Env) : evA kin Φ (.cons e es) ρ = M.bind ((evP kin Φ e).1 ρ) fun x => M.bind (evA kin Φ es ρ) fun xs => M.pure (x :: xs) := rfl
@[simp] theorem evB_nil (ρ : Env) : evB kin Φ .nil ρ = M.pure [] := rfl
@[simp] theorem evB_cons (e : Ex) (es : Exs) (ρ : Env) : evB kin Φ (.cons e es) ρ = M.bind (bor ρ ((evP kin Φ e).1 ρ) e) fun x => M.bind (evB kin Φ es ρ) fun xs => M.pure (x :: xs) := rfl
@[simp] theorem evO_no (ρ : Env) : evO kin Φ .no ρ = M.pure none := rfl
@[simp] theorem evO_some (e : Ex) (ρ : Env) : evO kin Φ (.some e) ρ = M.bind ((evP kin Φ e).1 ρ) fun x => M.bind (M.lift (asInt x)) fun i => M.pure (some i) := rfl
@[simp] theorem evI_val (e : Ex) (ρ : Env) : evI kin Φ (.val e) ρ = M.bind ((evP kin Φ e).1 ρ) fun x => M.lift (itemsOf x) := rfl
@[simp] theorem evI_rng1 (a : Ex) (ρ : Env) : evI kin Φ (.rng1 a) ρ = M.bind ((evP kin Φ a).1 ρ) fun x => M.bind (M.lift (asInt x)) fun i => if rngOk 0 i then M.pure (rangeD 0 i) else M.stuck := rfl
@[simp] theorem evI_rng2 (a b : Ex) (ρ : Env) : evI kin Φ (.rng2 a b) ρ = M.bind ((evP kin Φ a).1 ρ) fun x => M.bind ((evP kin Φ b).1 ρ) fun y => M.bind (M.lift (asInt x)) fun i => M.bind (M.lift (asInt y)) fun j => if rngOk i j then M.pure (rangeD i j) else M.stuck := rfl
@[simp] theorem evI_enum (e : Ex) (ρ : Env) : evI kin Φ (.enum e) ρ = M.bind ((evP kin Φ e).1 ρ) fun x => match x with
      | .lst xs => M.pure (enumD 0 xs)
      | .tup xs => M.pure (enumD 0 xs)
      | _ => M.stuck := rfl
@[simp] theorem evI_zip (a b : Ex) (ρ : Env) : evI kin Φ (.zip a b) ρ = M.bind ((evP kin Φ a).1 ρ) fun x => M.bind ((evP kin Φ b).1 ρ) fun y => match x, y with
      | .lst xs, .lst ys => M.pure (zipD xs ys)
      | .tup xs, .tup ys => M.pure (zipD xs ys)
      | .lst xs, .tup ys => M.pure (zipD xs ys)
      | .tup xs, .lst ys => M.pure (zipD xs ys)
      | _, _ => M.stuck := rfl
@[simp] theorem evAF_nil (ρ : Env) : evAF kin Φ [] .nil ρ = M.pure [] := rfl
@[simp] theorem evAF_cons (f : Bool) (fs : List Bool) (e : Ex) (es : Exs) (ρ : Env) : evAF kin Φ (f :: fs) (.cons e es) ρ = M.bind (if f then lstOnly (evE kin Φ e ρ) else evE kin Φ e ρ) fun x => M.bind (evAF kin Φ fs es ρ) fun xs => M.pure (x :: xs) := rfl
@[simp] theorem evS_asg (own : Bool) (i : Nat) (e : Ex) (ρ : Env) : evS kin Φ (.asg own i e) ρ = if own then M.bind (lstOnly (evE kin Φ e ρ)) fun d => M.pure (.nx (setW ρ i d)) else M.bind (evE kin Φ e ρ) fun d => M.pure (.nx (setS ρ i d)) := rfl
@[simp] theorem evS_par (is : List (Nat × Bool)) (es : Exs) (ρ : Env) : evS kin Φ (.par is es) ρ = M.bind (evAF kin Φ (is.map (·.2)) es ρ) fun ds => M.bind (M.lift (setP ρ is ds)) fun ρ' => M.pure (.nx ρ') := rfl
@[simp] theorem evS_unp (t : Tg) (e : Ex) (ρ : Env) : evS kin Φ (.unp t e) ρ = M.bind (evE kin Φ e ρ) fun d => M.bind (M.lift (bindT t d ρ)) fun ρ' => M.pure (.nx ρ') := rfl
@[simp] theorem evS_app (i : Nat) (e : Ex) (ρ : Env) : evS kin Φ (.app i e) ρ = M.bind (M.lift ((getO ρ i).bind asLst)) fun xs => M.bind (evE kin Φ e ρ) fun d => if small xs.length then M.pure (.nx (setW ρ i (.lst (xs ++ [d])))) else M.stuck := rfl
@[simp] theorem evS_setO (i : Nat) (k e : Ex) (ρ : Env) : evS kin Φ (.setO i k e) ρ = M.bind (evE kin Φ e ρ) fun d => M.bind (M.lift ((getO ρ i).bind asLst)) fun xs => M.bind (evE kin Φ k ρ) fun j => M.bind (M.lift (asInt j)) fun j =>
      M.bind (M.lift (place xs.length j)) fun n => M.pure (.nx (setW ρ i (.lst (xs.set n d)))) := rfl
@[simp] theorem evS_dset (i : Nat) (k e : Ex) (ρ : Env) : evS kin Φ (.dset i k e) ρ = M.bind (evE kin Φ e ρ) fun d => M.bind (M.lift ((getO ρ i).bind asDct)) fun kvs => M.bind (evE kin Φ k ρ) fun a => M.bind (M.lift (keyD a)) fun kk => if small kvs.length then M.pure (.nx (setW ρ i (.dct (dPut kvs kk a d)))) else M.stuck := rfl
@[simp] theorem evS_swp (i : Nat) (k1 k2 e1 e2 : Ex) (ρ : Env) : evS kin Φ (.swp i k1 k2 e1 e2) ρ = M.bind (evE kin Φ e1 ρ) fun d1 => M.bind (evE kin Φ e2 ρ) fun d2 => M.bind (M.lift ((getO ρ i).bind asLst)) fun xs => M.bind (evE kin Φ k1 ρ) fun j1 => M.bind (M.lift (asInt j1)) fun j1 =>
      M.bind (M.lift (place xs.length j1)) fun n1 => M.bind (evE kin Φ k2 (setW ρ i (.lst (xs.set n1 d1)))) fun j2 => M.bind (M.lift (asInt j2)) fun j2 =>
      M.bind (M.lift (place xs.length j2)) fun n2 => M.pure (.nx (setW (setW ρ i (.lst (xs.set n1 d1))) i (.lst ((xs.set n1 d1).set n2 d2)))) := rfl
@[simp] theorem evS_cupS (i k : Nat) (e : Ex) (ρ : Env) : evS kin Φ (.cupS i k e) ρ = M.bind (evE kin Φ e ρ) fun d => M.bind (M.lift (asInt d)) fun j => match getV ρ i with
      | some .cup => M.bind (setCup k j) fun _ => M.pure (.nx ρ)
      | _ => M.stuck := rfl
@[simp] theorem evS_ex (e : Ex) (ρ : Env) : evS kin Φ (.ex e) ρ = M.bind (evE kin Φ e ρ) fun _ => M.pure (.nx ρ) := rfl
@[simp] theorem evS_ret (e : Ex) (ρ : Env) : evS kin Φ (.ret e) ρ = M.bind (evE kin Φ e ρ) fun d => M.pure (.rt d) := rfl
@[simp] theorem evS_retN (ρ : Env) : evS kin Φ .retN ρ = M.pure (.rt .non) := rfl
@[simp] theorem evS_ite (c : Ex) (a b : Sts) (ρ : Env) : evS kin Φ (.ite c a b) ρ = M.bind (evT kin Φ c ρ) fun k => if k then evSs kin Φ a ρ else evSs kin Φ b ρ := rfl
@[simp] theorem evS_for (t : Tg) (it : Itr) (b : Sts) (ρ : Env) : evS kin Φ (.for t it b) ρ = M.bind (evI kin Φ it ρ) fun xs => forGo t (evSs kin Φ b) xs ρ := rfl
@[simp] theorem evS_whl (n : Nat) (c : Ex) (b : Sts) (ρ : Env) : evS kin Φ (.whl n c b) ρ = whlGo (evT kin Φ c) (evSs kin Φ b) n ρ := rfl
@[simp] theorem evS_rse (k : Str) (ρ : Env) : evS kin Φ (.rse k) ρ = M.exc k := rfl
@[simp] theorem evS_pass (ρ : Env) : evS kin Φ .pass ρ = M.pure (.nx ρ) := rfl
@[simp] theorem evS_brk (ρ : Env) : evS kin Φ .brk ρ = M.pure (.bk ρ) := rfl
@[simp] theorem evS_cont (ρ : Env) : evS kin Φ .cont ρ = M.pure (.ct ρ) := rfl
@[simp] theorem evS_share (i : Nat) (s : St) (ρ : Env) : evS kin Φ (.share i s) ρ = M.bind (M.lift (getO ρ i)) fun d => evS kin Φ s (setS ρ i d) := rfl
@[simp] theorem evSs_nil (ρ : Env) : evSs kin Φ .nil ρ = M.pure (.nx ρ) := rfl
@[simp] theorem evSs_cons (s : St) (ss : Sts) (ρ : Env) : evSs kin Φ (.cons s ss) ρ = M.bind (evS kin Φ s ρ) fun o => match o with
    | .nx ρ' => evSs kin Φ ss ρ'
    | o => M.pure o := rfl
theorem evF_eq (f : Fn) (ds : List D) (h : ds.length = f.ar) : evF kin Φ f ds = M.bind (evSs kin Φ f.body (start f.n ds)) fun o => match o with
    | .rt d => M.pure d
    | .nx _ => M.pure .non
    | _ => M.stuck := by
  unfold evF
  exact if_pos h
end
@[simp] theorem lstOnly_app (m : M D) (c : Cup) : lstOnly m c = match m c with
  | .ok (.lst ds) c => .ok (.lst ds) c
  | .ok (.dct ds) c => .ok (.dct ds) c
  | .exc k c => .exc k c
  | _ => .stuck := by
  unfold lstOnly M.bind
  cases m c with
  | ok d c => cases d <;> rfl
  | exc k c => rfl
  | stuck => rfl
@[simp] theorem asDct_dct (xs : List (D × D)) : asDct (.dct xs) = some xs := rfl
@[simp] theorem setCup_0 (i x y : Int) : setCup 0 i (some (x, y)) = .ok () (some (i, y)) := rfl
@[simp] theorem setCup_1 (i x y : Int) : setCup 1 i (some (x, y)) = .ok () (some (x, i)) := rfl
@[simp] theorem newCup_app (x y : Int) : newCup x y none = .ok .cup (some (x, y)) := rfl
@[simp] theorem told_app (kin : Nat → Str → Option Str) (f : Nat) (m : M D) (c : Cup) : told kin f m c = match m c with
  | .ok d c => .ok (.tup [.str "told", d]) c
  | .exc k c => (match kin f k with
    | some z => .ok (.str z) c
    | none => .stuck)
  | .stuck => .stuck := rfl
@[simp] theorem asBl_bl (b : Bool) : asBl (.bl b) = some b := rfl
@[simp] theorem asInt_int (i : Int) : asInt (.int i) = some i := rfl
@[simp] theorem asLst_lst (xs : List D) : asLst (.lst xs) = some xs := rfl
@[simp] theorem truth_bl (b : Bool) : truth (.bl b) = some b := rfl
@[simp] theorem truth_non : truth .non = some false := rfl
@[simp] theorem truth_int (i : Int) : truth (.int i) = some (i != 0) := rfl
@[simp] theorem truth_lst (xs : List D) : truth (.lst xs) = some (!xs.isEmpty) := rfl
@[simp] theorem truth_tup (xs : List D) : truth (.tup xs) = some (!xs.isEmpty) := rfl
@[simp] theorem itemsOf_lst (xs : List D) : itemsOf (.lst xs) = some xs := rfl
@[simp] theorem itemsOf_tup (xs : List D) : itemsOf (.tup xs) = some xs := rfl
@[simp] theorem Kst_d_non : Kst.d .non = .non := rfl
@[simp] theorem Kst_d_bl (b : Bool) : Kst.d (.bl b) = .bl b := rfl
@[simp] theorem Kst_d_int (i : Int) : Kst.d (.int i) = .int i := rfl
@[simp] theorem Kst_d_str (i : Str) : Kst.d (.str i) = .str i := rfl
/-! ### slots -/
@[simp] theorem getV_0 (d : D) (ρ : Env) : getV (some (.sh d) :: ρ) 0 = some d := rfl
@[simp] theorem getB_0 (d : D) (ρ : Env) : getB (some (.sh d) :: ρ) 0 = some d := rfl
@[simp] theorem getB_0w (d : D) (ρ : Env) : getB (some (.ow d) :: ρ) 0 = some d := rfl
@[simp] theorem getO_0 (d : D) (ρ : Env) : getO (some (.ow d) :: ρ) 0 = some d := rfl
@[simp] theorem getV_s (x : Option Sl) (ρ : Env) (i : Nat) : getV (x :: ρ) (i + 1) = getV ρ i := by unfold getV; simp
@[simp] theorem getB_s (x : Option Sl) (ρ : Env) (i : Nat) : getB (x :: ρ) (i + 1) = getB ρ i := by unfold getB; simp
@[simp] theorem getO_s (x : Option Sl) (ρ : Env) (i : Nat) : getO (x :: ρ) (i + 1) = getO ρ i := by unfold getO; simp
@[simp] theorem bindT_nm (i : Nat) (d : D) (ρ : Env) : bindT (.nm i) d ρ = some (setS ρ i d) := rfl
@[simp] theorem bindT_tp (ts : List Tg) (ds : List D) (ρ : Env) : bindT (.tp ts) (.tup ds) ρ = bindTs ts ds ρ := rfl
@[simp] theorem bindTs_nil (ρ : Env) : bindTs [] [] ρ = some ρ := rfl
@[simp] theorem bindTs_cons (t : Tg) (ts : List Tg) (d : D) (ds : List D) (ρ : Env) : bindTs (t :: ts) (d :: ds) ρ = (bindT t d ρ).bind fun ρ => bindTs ts ds ρ := rfl
@[simp] theorem setP_nil (ρ : Env) : setP ρ [] [] = some ρ := rfl
@[simp] theorem setP_cons (ρ : Env) (i : Nat) (o : Bool) (is : List (Nat × Bool)) (d : D) (ds : List D) : setP ρ ((i, o) :: is) (d :: ds) = setP (if o then setW ρ i d else setS ρ i d) is ds := rfl
@[simp] theorem wipeE_nil (ρ : Env) : wipeE ρ [] = ρ := rfl
@[simp] theorem wipeE_cons (ρ : Env) (v : Nat) (vs : List Nat) : wipeE ρ (v :: vs) = (wipeE ρ vs).set v none := rfl
@[simp] theorem slots_nm (i : Nat) : Tg.slots (.nm i) = [i] := rfl
@[simp] theorem slots_tp (ts : List Tg) : Tg.slots (.tp ts) = slotsL ts := rfl
@[simp] theorem slotsL_nil : slotsL [] = [] := rfl
@[simp] theorem slotsL_cons (t : Tg) (ts : List Tg) : slotsL (t :: ts) = t.slots ++ slotsL ts := rfl
/-! ### loops -/
section
variable {t : Tg} {b : Env → M Out}
@[simp] theorem forGo_nil (ρ : Env) : forGo t b [] ρ = M.pure (.nx ρ) := rfl
theorem forGo_cons (x : D) (xs : List D) (ρ : Env) : forGo t b (x :: xs) ρ = M.bind (M.lift (bindT t x ρ)) fun ρ' => M.bind (b ρ') fun o => match o with
    | .nx ρ'' => forGo t b xs ρ''
    | .ct ρ'' => forGo t b xs ρ''
    | .bk ρ'' => M.pure (.nx ρ'')
    | .rt d => M.pure (.rt d) := rfl
theorem for_step {x : D} {xs : List D} {ρ ρ1 ρ2 : Env} {c c2 : Cup} (h1 : bindT t x ρ = some ρ1) (h2 : b ρ1 c = .ok (.nx ρ2) c2) : forGo t b (x :: xs) ρ c = forGo t b xs ρ2 c2 := by
  rw [forGo_cons]; simp [h1, h2]
theorem for_step_ct {x : D} {xs : List D} {ρ ρ1 ρ2 : Env} {c c2 : Cup} (h1 : bindT t x ρ = some ρ1) (h2 : b ρ1 c = .ok (.ct ρ2) c2) : forGo t b (x :: xs) ρ c = forGo t b xs ρ2 c2 := by
  rw [forGo_cons]; simp [h1, h2]
theorem for_step_rt {x : D} {xs : List D} {ρ ρ1 : Env} {c c2 : Cup} {d : D} (h1 : bindT t x ρ = some ρ1) (h2 : b ρ1 c = .ok (.rt d) c2) : forGo t b (x :: xs) ρ c = .ok (.rt d) c2 := by
  rw [forGo_cons]; simp [h1, h2]
/-- a loop by what holds ahead of each turn -/
theorem for_inv (I : Nat → Env → Cup → Prop) : ∀ (xs : List D) (k : Nat) (ρ : Env) (c : Cup), I k ρ c → (∀ (i : Nat) (x : D) (ρ : Env) (c : Cup), xs[i]? = some x → I (k + i) ρ c → ∃ ρ1 ρ2 c2, bindT t x ρ = some ρ1 ∧ (b ρ1 c = .ok (.nx ρ2) c2 ∨ b ρ1 c = .ok (.ct ρ2) c2) ∧ I (k + i + 1) ρ2 c2) →
    ∃ ρ' c', forGo t b xs ρ c = .ok (.nx ρ') c' ∧ I (k + xs.length) ρ' c'
  | [], k, ρ, c, h, _ => ⟨ρ, c, rfl, h⟩
  | x :: xs, k, ρ, c, h, hs => by
    obtain ⟨ρ1, ρ2, c2, h1, h2, h3⟩ := hs 0 x ρ c rfl h
    obtain ⟨ρ', c', h4, h5⟩ := for_inv I xs (k + 1) ρ2 c2 h3 fun i y ρ c e q => by
      have z := hs (i + 1) y ρ c (by simpa using e) (by rw [show k + (i + 1) = k + 1 + i by omega]; exact q)
      rw [show k + (i + 1) = k + 1 + i by omega] at z
      exact z
    refine ⟨ρ', c', ?_, by rw [show k + (x :: xs).length = k + 1 + xs.length by simp; omega]; exact h5⟩
    rw [forGo_cons]
    rcases h2 with h2 | h2 <;> simp [h1, h2, h4]
/-- a loop that turns one state into the next -/
theorem for_fold {σ : Type} (E : σ → Env → Prop) (step : σ → D → σ) : ∀ (xs : List D) (s : σ) (ρ : Env) (c : Cup), E s ρ → (∀ (i : Nat) (x : D) (s : σ) (ρ : Env), xs[i]? = some x → E s ρ → ∃ ρ1 ρ2, bindT t x ρ = some ρ1 ∧ b ρ1 c = .ok (.nx ρ2) c ∧ E (step s x) ρ2) →
    ∃ ρ', forGo t b xs ρ c = .ok (.nx ρ') c ∧ E (xs.foldl step s) ρ'
  | [], s, ρ, c, h, _ => ⟨ρ, rfl, h⟩
  | x :: xs, s, ρ, c, h, hs => by
    obtain ⟨ρ1, ρ2, h1, h2, h3⟩ := hs 0 x s ρ rfl h
    obtain ⟨ρ', h4, h5⟩ := for_fold E step xs (step s x) ρ2 c h3 fun i y s ρ e q => hs (i + 1) y s ρ (by simpa using e) q
    exact ⟨ρ', by rw [forGo_cons]; simp [h1, h2, h4], h5⟩
end
theorem mapGo_cons (f : D → M (Option D)) (x : D) (xs acc : List D) : mapGo f (x :: xs) acc = M.bind (f x) fun o => match o with
    | some d => if small acc.length then mapGo f xs (acc ++ [d]) else M.stuck
    | none => mapGo f xs acc := rfl
@[simp] theorem mapGo_nil (f : D → M (Option D)) (acc : List D) : mapGo f [] acc = M.pure acc := rfl
theorem small_of {n : Nat} (h : n ≤ 1000000) : small n = true := decide_eq_true h
/-- a comprehension of a function -/
theorem mapGo_opt {f : D → M (Option D)} (g : D → Option D) {c : Cup} : ∀ (xs acc : List D), (∀ x ∈ xs, f x c = .ok (g x) c) → acc.length + xs.length ≤ 1000000 → mapGo f xs acc c = .ok (acc ++ xs.filterMap g) c
  | [], acc, _, _ => by simp
  | x :: xs, acc, h, hl => by
    have h1 := h x List.mem_cons_self
    simp only [List.length_cons] at hl
    rw [mapGo_cons, bind_app, h1]
    cases e : g x with
    | none =>
      show mapGo f xs acc c = _
      rw [mapGo_opt g xs acc (fun y hy => h y (List.mem_cons_of_mem _ hy)) (by omega)]
      simp [e]
    | some d =>
      show (if small acc.length = true then mapGo f xs (acc ++ [d]) else M.stuck) c = _
      rw [if_pos (small_of (by omega)), mapGo_opt g xs (acc ++ [d]) (fun y hy => h y (List.mem_cons_of_mem _ hy)) (by simp; omega)]
      simp [e]
theorem mapGo_map {f : D → M (Option D)} (g : D → D) {c : Cup} (xs : List D) (h : ∀ x ∈ xs, f x c = .ok (some (g x)) c) (hl : xs.length ≤ 1000000) : mapGo f xs [] c = .ok (xs.map g) c := by
  rw [mapGo_opt (fun x => some (g x)) xs [] h (by simpa using hl)]
  simp
/-- the same over items told by others -/
theorem mapGo_mapT {τ : Type} {f : D → M (Option D)} (e : τ → D) (g : τ → D) {c : Cup} (xs : List τ) (h : ∀ x ∈ xs, f (e x) c = .ok (some (g x)) c) (hl : xs.length ≤ 1000000) : mapGo f (xs.map e) [] c = .ok (xs.map g) c := by
  suffices ∀ (xs : List τ) (acc : List D), (∀ x ∈ xs, f (e x) c = .ok (some (g x)) c) → acc.length + xs.length ≤ 1000000 → mapGo f (xs.map e) acc c = .ok (acc ++ xs.map g) c by
    simpa using this xs [] h (by simpa using hl)
  intro xs
  induction xs with
  | nil => intro acc _ _; simp
  | cons x xs ih =>
    intro acc h hl
    simp only [List.length_cons] at hl
    rw [List.map_cons, mapGo_cons, bind_app, h x List.mem_cons_self]
    show (if small acc.length = true then mapGo f (xs.map e) (acc ++ [g x]) else M.stuck) c = _
    rw [if_pos (small_of (by omega)), ih (acc ++ [g x]) (fun y hy => h y (List.mem_cons_of_mem _ hy)) (by simp; omega)]
    simp
/-- a comprehension that draws -/
theorem mapGo_draw {τ : Type} {f : D → M (Option D)} (e : τ → D) (P : τ → Prop) (C : Cup → Prop) (hf : ∀ x c, C c → ∃ t c', f x c = .ok (some (e t)) c' ∧ P t ∧ C c') : ∀ (xs acc : List D) (c : Cup), C c → acc.length + xs.length ≤ 1000000 →
    ∃ (ts : List τ) (c' : Cup), mapGo f xs acc c = .ok (acc ++ ts.map e) c' ∧ ts.length = xs.length ∧ (∀ t ∈ ts, P t) ∧ C c'
  | [], acc, c, hc, _ => ⟨[], c, by simp, rfl, by simp, hc⟩
  | x :: xs, acc, c, hc, hl => by
    simp only [List.length_cons] at hl
    obtain ⟨t, c1, h1, h2, h3⟩ := hf x c hc
    obtain ⟨ts, c2, h4, h5, h6, h7⟩ := mapGo_draw e P C hf xs (acc ++ [e t]) c1 h3 (by simp; omega)
    refine ⟨t :: ts, c2, ?_, by simp [h5], fun u hu => ?_, h7⟩
    · rw [mapGo_cons, bind_app, h1]
      show (if small acc.length = true then mapGo f xs (acc ++ [e t]) else M.stuck) c1 = _
      rw [if_pos (small_of (by omega)), h4]
      simp
    · rcases List.mem_cons.mp hu with rfl | hu
      · exact h2
      · exact h6 u hu
/-! ### numbers -/
def nD (n : Nat) : D := .int n
def tN (xs : List Nat) : D := .tup (xs.map nD)
def lN (xs : List Nat) : D := .lst (xs.map nD)
theorem rangeD_nat (n : Nat) : rangeD 0 n = (List.range n).map nD := by
  unfold rangeD nD
  simp
theorem rngOk_of {i j : Int} (h : -1000000 ≤ i ∧ i ≤ 1000000 ∧ -1000000 ≤ j ∧ j ≤ 1000000) : rngOk i j = true := decide_eq_true h
theorem place_nat {n i : Nat} (h : i < n) : place n (i : Int) = some i := by
  unfold place
  rw [if_pos (by omega), if_pos (by omega)]
  simp
theorem item_nat {xs : List D} {i : Nat} (h : i < xs.length) : item xs (i : Int) = some xs[i] := by
  unfold item
  rw [place_nat h]
  simp [h]
theorem item_last {xs : List D} (x : D) : item (xs ++ [x]) (-1) = some x := by
  unfold item place
  have e : ((-1 : Int) + ((xs ++ [x]).length : Nat)).toNat = xs.length := by simp; omega
  rw [if_neg (by omega), if_pos (by simp; omega)]
  rw [e]
  simp
theorem cut_take (xs : List D) (n : Nat) : cut xs none (some (n : Int)) = xs.take n := by
  unfold cut clip
  have h : ¬ ((n : Int) < 0) := by omega
  simp only [h, if_false, List.drop_zero, Nat.sub_zero]
  rw [show min (n : Int).toNat xs.length = min n xs.length by simp]
  rcases Nat.le_total n xs.length with h | h
  · rw [Nat.min_eq_left h]
  · rw [Nat.min_eq_right h, List.take_of_length_le h, List.take_of_length_le (Nat.le_refl _)]
theorem cut_drop (xs : List D) (n : Nat) : cut xs (some (n : Int)) none = xs.drop n := by
  unfold cut clip
  have h : ¬ ((n : Int) < 0) := by omega
  simp only [h, if_false]
  rw [show min (n : Int).toNat xs.length = min n xs.length by simp]
  rcases Nat.le_total n xs.length with h | h
  · rw [Nat.min_eq_left h, List.take_of_length_le (by simp)]
  · rw [Nat.min_eq_right h, List.drop_eq_nil_of_le h, List.drop_eq_nil_of_le (Nat.le_refl _)]
    simp
theorem cut_dropLast (xs : List D) : cut xs none (some (-1)) = xs.dropLast := by
  unfold cut clip
  simp only [show (-1 : Int) < 0 by decide, if_true, List.drop_zero, Nat.sub_zero]
  rw [List.dropLast_eq_take]
  congr 1
  omega
/-! ### items and slices by natural numbers -/
@[simp] theorem item_n (xs : List D) (p : Nat) : item xs (p : Int) = xs[p]? := by
  unfold item place
  rw [if_pos (by omega)]
  split
  · simp
  · rename_i h
    rw [List.getElem?_eq_none (by omega)]
    rfl
@[simp] theorem item_n1 (xs : List D) (p : Nat) : item xs ((p : Int) + 1) = xs[p + 1]? := item_n xs (p + 1)
@[simp] theorem item_0 (xs : List D) : item xs 0 = xs[0]? := item_n xs 0
@[simp] theorem item_1 (xs : List D) : item xs 1 = xs[1]? := item_n xs 1
@[simp] theorem item_2 (xs : List D) : item xs 2 = xs[2]? := item_n xs 2
@[simp] theorem item_3 (xs : List D) : item xs 3 = xs[3]? := item_n xs 3
@[simp] theorem item_m1 (xs : List D) : item xs (-1) = xs.getLast? := by
  rcases List.eq_nil_or_concat xs with rfl | ⟨ys, y, rfl⟩
  · rfl
  · rw [List.concat_eq_append, item_last]; simp
@[simp] theorem cut_n (xs : List D) (n : Nat) : cut xs none (some (n : Int)) = xs.take n := cut_take xs n
@[simp] theorem cut_1 (xs : List D) : cut xs (some 1) none = xs.drop 1 := cut_drop xs 1
@[simp] theorem cut_2 (xs : List D) : cut xs (some 2) none = xs.drop 2 := cut_drop xs 2
@[simp] theorem cut_t1 (xs : List D) : cut xs none (some 1) = xs.take 1 := cut_take xs 1
@[simp] theorem cut_t2 (xs : List D) : cut xs none (some 2) = xs.take 2 := cut_take xs 2
@[simp] theorem cut_t3 (xs : List D) : cut xs none (some 3) = xs.take 3 := cut_take xs 3
@[simp] theorem cut_d (xs : List D) (n : Nat) : cut xs (some (n : Int)) none = xs.drop n := cut_drop xs n
@[simp] theorem cut_d1 (xs : List D) (n : Nat) : cut xs (some ((n : Int) + 1)) none = xs.drop (n + 1) := cut_drop xs (n + 1)
@[simp] theorem cut_d2 (xs : List D) (n : Nat) : cut xs (some ((n : Int) + 2)) none = xs.drop (n + 2) := cut_drop xs (n + 2)
@[simp] theorem cut_m1 (xs : List D) : cut xs none (some (-1)) = xs.dropLast := cut_dropLast xs
@[simp] theorem opI_lst (c : Cup) (xs : List D) (i : Int) : opI c (.lst xs) (.int i) = item xs i := rfl
@[simp] theorem opI_tup (c : Cup) (xs : List D) (i : Int) : opI c (.tup xs) (.int i) = item xs i := rfl
@[simp] theorem opI_cup0 (x y : Int) : opI (some (x, y)) .cup (.int 0) = some (.int x) := rfl
@[simp] theorem opI_cup1 (x y : Int) : opI (some (x, y)) .cup (.int 1) = some (.int y) := rfl
@[simp] theorem opS_lst (xs : List D) (l h : Option Int) : opS (.lst xs) l h = some (.lst (cut xs l h)) := rfl
@[simp] theorem opS_tup (xs : List D) (l h : Option Int) : opS (.tup xs) l h = some (.tup (cut xs l h)) := rfl
@[simp] theorem opB_add (i j : Int) : opB .add (.int i) (.int j) = some (.int (i + j)) := rfl
@[simp] theorem opB_sub (i j : Int) : opB .sub (.int i) (.int j) = some (.int (i - j)) := rfl
@[simp] theorem opB_mod (i j : Int) : opB .mod (.int i) (.int j) = if j ≠ 0 then some (.int (i.fmod j)) else none := rfl
theorem opB_addL (xs ys : List D) : opB .add (.lst xs) (.lst ys) = if small (xs.length + ys.length) then some (.lst (xs ++ ys)) else none := rfl
theorem opB_addT (xs ys : List D) : opB .add (.tup xs) (.tup ys) = if small (xs.length + ys.length) then some (.tup (xs ++ ys)) else none := rfl
theorem addL_ok {xs ys : List D} (h : xs.length + ys.length ≤ 1000000) : opB .add (.lst xs) (.lst ys) = some (.lst (xs ++ ys)) := by rw [opB_addL, if_pos (small_of h)]
theorem addT_ok {xs ys : List D} (h : xs.length + ys.length ≤ 1000000) : opB .add (.tup xs) (.tup ys) = some (.tup (xs ++ ys)) := by rw [opB_addT, if_pos (small_of h)]
@[simp] theorem opC_lt (i j : Int) : opC .lt (.int i) (.int j) = some (decide (i < j)) := rfl
@[simp] theorem opC_le (i j : Int) : opC .le (.int i) (.int j) = some (decide (i ≤ j)) := rfl
@[simp] theorem opC_gt (i j : Int) : opC .gt (.int i) (.int j) = some (decide (j < i)) := rfl
@[simp] theorem opC_ge (i j : Int) : opC .ge (.int i) (.int j) = some (decide (j ≤ i)) := rfl
theorem opC_eq (x y : D) (hx : plain x = true) (hy : plain y = true) : opC .eq x y = some (eqD x y) := by
  show (if (plain x && plain y) = true then some (eqD x y) else none) = _
  rw [hx, hy]; rfl
theorem opC_ne (x y : D) (hx : plain x = true) (hy : plain y = true) : opC .ne x y = some (!eqD x y) := by
  show (if (plain x && plain y) = true then some (!eqD x y) else none) = _
  rw [hx, hy]; rfl
@[simp] theorem len_lst (xs : List D) : opF .len [.lst xs] = some (.int xs.length) := rfl
@[simp] theorem len_tup (xs : List D) : opF .len [.tup xs] = some (.int xs.length) := rfl
@[simp] theorem tuple_lst (xs : List D) : opF .tuple [.lst xs] = some (.tup xs) := rfl
@[simp] theorem tuple_tup (xs : List D) : opF .tuple [.tup xs] = some (.tup xs) := rfl
@[simp] theorem list_lst (xs : List D) : opF .list [.lst xs] = some (.lst xs) := rfl
@[simp] theorem list_tup (xs : List D) : opF .list [.tup xs] = some (.lst xs) := rfl
@[simp] theorem int_int (i : Int) : opF .int [.int i] = some (.int i) := rfl
theorem bls_map {τ : Type} (p : τ → Bool) : ∀ l : List τ, bls? (l.map fun x => D.bl (p x)) = some (l.map p)
  | [] => rfl
  | x :: l => by simp [bls?, bls_map p l]
theorem all_map {τ : Type} (p : τ → Bool) (l : List τ) : opF .all [.lst (l.map fun x => D.bl (p x))] = some (.bl (l.all p)) := by
  simp [opF, bls_map]
theorem all_true {τ : Type} (l : List τ) : opF .all [.lst (l.map fun _ => D.bl true)] = some (.bl true) := by
  rw [all_map (fun _ => true)]
  congr 2
  exact List.all_eq_true.mpr fun _ _ => rfl
@[simp] theorem all_nil : opF .all [.lst []] = some (.bl true) := rfl
/-! ### things that are plain -/
theorem plainN_int (i : Int) (n : Nat) : plainN (.int i) n = true := by cases n <;> rfl
theorem plainsN_of {n : Nat} : ∀ {l : List D}, (∀ x ∈ l, plainN x n = true) → plainsN l n = true
  | [], _ => by cases n <;> rfl
  | x :: l, h => by
    have h1 := h x List.mem_cons_self
    have h2 := plainsN_of (l := l) fun y hy => h y (List.mem_cons_of_mem _ hy)
    cases n <;> simp [plainsN, h1, h2]
theorem plainN_tup {n : Nat} {l : List D} (h : ∀ x ∈ l, plainN x n = true) : plainN (.tup l) (n + 1) = true := by
  simp [plainN, plainsN_of h]
theorem plainN_lst {n : Nat} {l : List D} (h : ∀ x ∈ l, plainN x n = true) : plainN (.lst l) (n + 1) = true := by
  simp [plainN, plainsN_of h]
theorem plainN_tN (xs : List Nat) (n : Nat) : plainN (tN xs) (n + 1) = true := plainN_tup fun x hx => by
  obtain ⟨i, _, rfl⟩ := List.mem_map.mp hx
  exact plainN_int _ _
mutual
theorem eqD_refl : ∀ (d : D) (n : Nat), plainN d n = true → eqD d d = true
  | .non, _, _ => rfl
  | .bl b, _, _ => by simp [eqD]
  | .int i, _, _ => by simp [eqD]
  | .str x, _, _ => by simp [eqD]
  | .tup xs, 0, h => by simp [plainN] at h
  | .lst xs, 0, h => by simp [plainN] at h
  | .tup xs, n + 1, h => by
    simp only [plainN] at h
    simp only [eqD]
    exact eqDs_refl xs n h
  | .lst xs, n + 1, h => by
    simp only [plainN] at h
    simp only [eqD]
    exact eqDs_refl xs n h
  | .dct _, n, h => by cases n <;> simp [plainN] at h
  | .set _, n, h => by cases n <;> simp [plainN] at h
  | .cup, n, h => by cases n <;> simp [plainN] at h
  | .scr _, n, h => by cases n <;> simp [plainN] at h
  | .exc _, n, h => by cases n <;> simp [plainN] at h
theorem eqDs_refl : ∀ (l : List D) (n : Nat), plainsN l n = true → eqDs l l = true
  | [], _, _ => rfl
  | x :: l, n, h => by
    have h2 : plainN x n = true ∧ plainsN l n = true := by cases n <;> simpa [plainsN] using h
    simp only [eqDs, Bool.and_eq_true]
    exact ⟨eqD_refl x n h2.1, eqDs_refl l n h2.2⟩
end
theorem eqDs_nats : ∀ (xs ys : List Nat), eqDs (xs.map nD) (ys.map nD) = decide (xs = ys)
  | [], [] => rfl
  | [], _ :: _ => rfl
  | _ :: _, [] => rfl
  | x :: xs, y :: ys => by
    simp only [List.map_cons, eqDs, eqDs_nats xs ys, nD, eqD]
    by_cases h : x = y <;> by_cases h2 : xs = ys <;> simp [h, h2] <;> omega
theorem eqD_tN (xs ys : List Nat) : eqD (tN xs) (tN ys) = decide (xs = ys) := eqDs_nats xs ys
theorem idxOf_nats (b : Nat) : ∀ (r : List Nat), b ∈ r → idxOf? (nD b) (r.map nD) = some (r.idxOf b)
  | [], h => by cases h
  | x :: r, h => by
    simp only [List.map_cons, idxOf?, nD, eqD, List.idxOf_cons]
    by_cases e : x = b
    · subst e; simp
    · have e2 : ¬ ((x : Int) = (b : Int)) := by omega
      have h2 : b ∈ r := by simpa [Ne.symm e] using h
      have ih : idxOf? (D.int (b : Int)) (r.map nD) = some (r.idxOf b) := idxOf_nats b r h2
      have e3 : (x == b) = false := by simpa using e
      simp [e2, ih, e3]
theorem index_nats {r : List Nat} {b : Nat} (h : b ∈ r) : opM .index (.tup (r.map nD)) [nD b] = some (nD (r.idxOf b)) := by
  have h1 : plain (nD b) = true := plainN_int _ _
  have h2 : plain (.tup (r.map nD)) = true := plainN_tN r 19
  show (if (plain (nD b) && plain (.tup (r.map nD))) = true then _ else none) = _
  rw [h1, h2, idxOf_nats b r h]
  rfl
theorem zipD_map {σ τ : Type} (f : σ → D) (g : τ → D) : ∀ (xs : List σ) (ys : List τ), zipD (xs.map f) (ys.map g) = (xs.zip ys).map fun q => .tup [f q.1, g q.2]
  | [], _ => by simp [zipD]
  | _ :: _, [] => by simp [zipD]
  | x :: xs, y :: ys => by simp [zipD, zipD_map f g xs ys]
theorem enumD_map {τ : Type} (f : τ → D) : ∀ (xs : List τ) (n : Nat), enumD n (xs.map f) = (xs.zipIdx n).map fun q => .tup [nD q.2, f q.1]
  | [], _ => rfl
  | x :: xs, n => by simp [enumD, enumD_map f xs (n + 1), nD]
theorem gap_zip : ∀ {ch : List Nat}, List.Pairwise (fun p q => p + 1 < q) ch → ∀ q ∈ ch.zip ch.tail, q.1 + 1 < q.2
  | [], _, q, h => by simp at h
  | [_], _, q, h => by simp at h
  | x :: y :: ch, hp, q, h => by
    simp only [List.tail_cons, List.zip_cons_cons, List.mem_cons] at h
    rcases h with rfl | h
    · exact (List.pairwise_cons.mp hp).1 y List.mem_cons_self
    · exact gap_zip (List.Pairwise.tail hp) q (by simpa using h)
theorem pick_step (xs : List D) (L : Nat) (h : 1 ≤ L) : pick xs none none (some (L : Int)) = (List.range ((xs.length + L - 1) / L)).filterMap fun k => xs[L * k]? := by
  unfold pick sliceRange sliceBounds
  have h1 : ((L : Int) > 0) := by omega
  simp only [Option.getD_some, h1, if_true]
  have e : (if (0 : Int) < (xs.length : Int) then ((xs.length : Int) - 0 + L - 1) / (L : Int) else 0).toNat = (xs.length + L - 1) / L := by
    split
    · have e1 : ((xs.length : Int) - 0 + L - 1) = ((xs.length + L - 1 : Nat) : Int) := by omega
      rw [e1, ← Int.natCast_ediv]
      exact Int.toNat_natCast _
    · have : xs.length = 0 := by omega
      rw [this, Nat.zero_add]
      exact (Nat.div_eq_of_lt (by omega)).symm
  rw [e, List.filterMap_map]
  congr 1
  funext k
  show xs[((0 : Int) + (L : Int) * (k : Int)).toNat]? = _
  rw [show ((0 : Int) + (L : Int) * (k : Int)).toNat = L * k by rw [Int.zero_add, ← Int.natCast_mul]; exact Int.toNat_natCast _]
theorem opK_lst (xs : List D) (L : Nat) (h : 1 ≤ L) : opK (.lst xs) (.int (L : Int)) = some (.lst ((List.range ((xs.length + L - 1) / L)).filterMap fun k => xs[L * k]?)) := by
  show (if (L : Int) ≠ 0 then some (D.lst (pick xs none none (some (L : Int)))) else none) = _
  rw [if_pos (by omega), pick_step xs L h]
theorem mapGo_filterT {τ : Type} {f : D → M (Option D)} (e : τ → D) (g : τ → Option D) {c : Cup} (xs : List τ) (h : ∀ x ∈ xs, f (e x) c = .ok (g x) c) (hl : xs.length ≤ 1000000) : mapGo f (xs.map e) [] c = .ok (xs.filterMap g) c := by
  suffices ∀ (xs : List τ) (acc : List D), (∀ x ∈ xs, f (e x) c = .ok (g x) c) → acc.length + xs.length ≤ 1000000 → mapGo f (xs.map e) acc c = .ok (acc ++ xs.filterMap g) c by
    simpa using this xs [] h (by simpa using hl)
  intro xs
  induction xs with
  | nil => intro acc _ _; simp
  | cons x xs ih =>
    intro acc h hl
    simp only [List.length_cons] at hl
    rw [List.map_cons, mapGo_cons, bind_app, h x List.mem_cons_self]
    cases eg : g x with
    | none =>
      show mapGo f (xs.map e) acc c = _
      rw [ih acc (fun y hy => h y (List.mem_cons_of_mem _ hy)) (by omega)]
      simp [eg]
    | some d =>
      show (if small acc.length = true then mapGo f (xs.map e) (acc ++ [d]) else M.stuck) c = _
      rw [if_pos (small_of (by omega)), ih (acc ++ [d]) (fun y hy => h y (List.mem_cons_of_mem _ hy)) (by simp; omega)]
      simp [eg]
theorem min_nD (x y : Nat) : opF .min [nD x, nD y] = some (nD (min x y)) := by
  show some (D.int (if (y : Int) < (x : Int) then (y : Int) else (x : Int))) = _
  unfold nD
  congr 2
  split <;> omega
theorem max_nD (x y : Nat) : opF .max [nD x, nD y] = some (nD (max x y)) := by
  show some (D.int (if (y : Int) > (x : Int) then (y : Int) else (x : Int))) = _
  unfold nD
  congr 2
  split <;> omega
theorem sorted2 (x y : Nat) : opF .sorted [.lst [nD x, nD y]] = some (.lst [nD (min x y), nD (max x y)]) := by
  show (sortD [nD x, nD y]).map D.lst = _
  have e : sortD [nD x, nD y] = some ((isort (fun a b => decide (a ≤ b)) [(x : Int), (y : Int)]).map .int) := rfl
  rw [e]
  simp only [isort, ins]
  by_cases h : (x : Int) ≤ (y : Int)
  · have h1 : min x y = x := by omega
    have h2 : max x y = y := by omega
    simp [h, nD, h1, h2]
  · have h1 : min x y = y := by omega
    have h2 : max x y = x := by omega
    simp [h, nD, h1, h2]
theorem mod_n (n : Nat) {k : Nat} (h : 0 < k) : opB .mod (.int (n : Int)) (.int (k : Int)) = some (nD (n % k)) := by
  have e : opB .mod (.int (n : Int)) (.int (k : Int)) = some (.int ((n : Int).fmod (k : Int))) := if_pos (show (k : Int) ≠ 0 by omega)
  rw [e, Int.fmod_eq_emod_of_nonneg _ (by omega)]
  rfl
theorem eq_nD (x y : Nat) : opC .eq (nD x) (nD y) = some (decide (x = y)) := by
  rw [opC_eq (nD x) (nD y) (plainN_int _ _) (plainN_int _ _)]
  simp only [nD, eqD]
  congr 1
  by_cases z : x = y
  · subst z; simp
  · have z2 : ¬ ((x : Int) = (y : Int)) := by omega
    simp [z, z2]
theorem ne_nD (x y : Nat) : opC .ne (nD x) (nD y) = some (!decide (x = y)) := by
  rw [opC_ne (nD x) (nD y) (plainN_int _ _) (plainN_int _ _)]
  simp only [nD, eqD]
  congr 1
  by_cases z : x = y
  · subst z; simp
  · have z2 : ¬ ((x : Int) = (y : Int)) := by omega
    simp [z, z2]
theorem ne_bl (a b : Bool) : opC .ne (.bl a) (.bl b) = some (a != b) := by cases a <;> cases b <;> rfl
theorem eq_bl (a b : Bool) : opC .eq (.bl a) (.bl b) = some (a == b) := by cases a <;> cases b <;> rfl
theorem lt_nD (x y : Nat) : opC .lt (nD x) (nD y) = some (decide (x < y)) := by
  show some (decide ((x : Int) < (y : Int))) = _
  congr 1
  by_cases z : x < y <;> simp [z]
theorem gt_nD (x y : Nat) : opC .gt (nD x) (nD y) = some (decide (y < x)) := by
  show some (decide ((y : Int) < (x : Int))) = _
  congr 1
  by_cases z : y < x <;> simp [z]
def pD (q : Nat × Nat) : D := .tup [nD q.1, nD q.2]
theorem plain_pD (q : Nat × Nat) (n : Nat) : plainN (pD q) (n + 1) = true := plainN_tup fun x hx => by
  simp only [List.mem_cons, List.not_mem_nil, or_false] at hx
  rcases hx with rfl | rfl <;> exact plainN_int _ _
theorem eqD_pD (p q : Nat × Nat) : eqD (pD p) (pD q) = decide (p = q) := by
  simp only [pD, eqD, eqDs, nD]
  obtain ⟨a, b⟩ := p
  obtain ⟨c, d⟩ := q
  by_cases h1 : a = c <;> by_cases h2 : b = d <;> simp [h1, h2] <;> omega
theorem isIn_pD (q : Nat × Nat) : ∀ l : List (Nat × Nat), isIn (pD q) (l.map pD) = decide (q ∈ l)
  | [] => rfl
  | p :: l => by
    have ih := isIn_pD q l
    simp only [isIn] at ih
    simp only [isIn, List.map_cons, List.any_cons, ih, eqD_pD, List.mem_cons]
    by_cases h1 : p = q
    · subst h1; simp
    · have h3 : ¬ q = p := fun z => h1 z.symm
      by_cases h2 : q ∈ l <;> simp [h1, h2, h3]
theorem in_pD (q : Nat × Nat) (l : List (Nat × Nat)) : opC .in_ (pD q) (.lst (l.map pD)) = some (decide (q ∈ l)) := by
  have h1 : plain (pD q) = true := plain_pD q 19
  have h2 : plain (.lst (l.map pD)) = true := plainN_lst fun x hx => by
    obtain ⟨p, _, rfl⟩ := List.mem_map.mp hx
    exact plain_pD p 18
  show (if (plain (pD q) && plain (.lst (l.map pD))) = true then _ else none) = _
  rw [h1, h2, isIn_pD]
  rfl
end PF
end

/-! ## PfT -/
section
/-! PfT: rows, changes, leads, tours, in plain Lean. -/
set_option linter.all false
set_option autoImplicit false
namespace PF
open PySem
/-- the row behind one exchange -/
def sw1 (r : List Nat) (p : Nat) : List Nat := r.take p ++ (r.getD (p + 1) 0 :: r.getD p 0 :: r.drop (p + 2))
def sw (r : List Nat) (ch : List Nat) : List Nat := ch.foldl sw1 r
theorem sw1_length {r : List Nat} {p : Nat} (h : p + 1 < r.length) : (sw1 r p).length = r.length := by
  unfold sw1
  simp
  omega
theorem sw_nil (r : List Nat) : sw r [] = r := rfl
theorem sw_cons (r : List Nat) (p : Nat) (ch : List Nat) : sw r (p :: ch) = sw (sw1 r p) ch := rfl
theorem sw_length : ∀ {ch r : List Nat}, (∀ p ∈ ch, p + 1 < r.length) → (sw r ch).length = r.length
  | [], r, _ => rfl
  | p :: ch, r, h => by
    have h1 := sw1_length (h p List.mem_cons_self)
    rw [sw_cons, sw_length (fun q hq => by rw [h1]; exact h q (List.mem_cons_of_mem _ hq)), h1]
theorem sw1_get {r : List Nat} {p : Nat} (h : p + 1 < r.length) (i : Nat) : (sw1 r p)[i]? = if i = p then r[p + 1]? else if i = p + 1 then r[p]? else r[i]? := by
  unfold sw1
  have h0 : p < r.length := by omega
  rw [List.getElem?_append]
  simp only [List.length_take, Nat.min_eq_left (Nat.le_of_lt h0)]
  split
  · rename_i hi
    rw [if_neg (by omega), if_neg (by omega), List.getElem?_take, if_pos hi]
  · rename_i hi
    by_cases e : i = p
    · subst e
      simp [List.getElem?_eq_getElem h]
    · by_cases e2 : i = p + 1
      · subst e2
        simp [List.getElem?_eq_getElem h0]
      · obtain ⟨j, rfl⟩ : ∃ j, i = p + 2 + j := ⟨i - (p + 2), by omega⟩
        rw [if_neg e, if_neg e2, show p + 2 + j - p = j + 2 by omega]
        simp
theorem sw1_mem {r : List Nat} {p x : Nat} (h : p + 1 < r.length) : x ∈ sw1 r p ↔ x ∈ r := by
  constructor
  · intro hx
    obtain ⟨i, hi⟩ := List.getElem?_of_mem hx
    rw [sw1_get h] at hi
    split at hi
    · exact List.mem_of_getElem? hi
    · split at hi
      · exact List.mem_of_getElem? hi
      · exact List.mem_of_getElem? hi
  · intro hx
    obtain ⟨i, hi⟩ := List.getElem?_of_mem hx
    by_cases e : i = p
    · subst e
      refine List.mem_of_getElem? (i := i + 1) ?_
      rw [sw1_get h, if_neg (by omega), if_pos rfl]
      exact hi
    · by_cases e2 : i = p + 1
      · subst e2
        refine List.mem_of_getElem? (i := p) ?_
        rw [sw1_get h, if_pos rfl]
        exact hi
      · refine List.mem_of_getElem? (i := i) ?_
        rw [sw1_get h, if_neg e, if_neg e2]
        exact hi
theorem sw_mem {x : Nat} : ∀ {ch r : List Nat}, (∀ p ∈ ch, p + 1 < r.length) → (x ∈ sw r ch ↔ x ∈ r)
  | [], r, _ => Iff.rfl
  | p :: ch, r, h => by
    have h1 := h p List.mem_cons_self
    rw [sw_cons, sw_mem (fun q hq => by rw [sw1_length h1]; exact h q (List.mem_cons_of_mem _ hq)), sw1_mem h1]
/-- a change of b bells -/
def fitsCh (b : Nat) (ch : List Nat) : Prop := (∀ p ∈ ch, p + 1 < b) ∧ List.Pairwise (fun p q => p + 1 < q) ch
instance (b : Nat) (ch : List Nat) : Decidable (fitsCh b ch) := by unfold fitsCh; infer_instance
/-- all changes, in order -/
def chsN : Nat → List (List Nat)
  | 2 => [[], [0]]
  | 3 => [[], [0], [1]]
  | 4 => [[], [0], [0, 2], [1], [2]]
  | 5 => [[], [0], [0, 2], [0, 3], [1], [1, 3], [2], [3]]
  | _ => []
theorem chsN_fits {b : Nat} {ch : List Nat} (h : ch ∈ chsN b) : fitsCh b ch := by
  have k : ∀ b ∈ [2, 3, 4, 5], ∀ ch ∈ chsN b, fitsCh b ch := by decide
  by_cases hb : b ∈ [2, 3, 4, 5]
  · exact k b hb ch h
  · exfalso
    unfold chsN at h
    split at h <;> first | exact hb (by decide) | cases h
/-! ### leads -/
def rowsBy (r : List Nat) : List (List Nat) → List (List Nat)
  | [] => []
  | ch :: cs => sw r ch :: rowsBy (sw r ch) cs
def leadTo (r : List Nat) (lead : List (List Nat)) : List Nat := lead.foldl sw r
theorem rowsBy_length : ∀ (r : List Nat) (l : List (List Nat)), (rowsBy r l).length = l.length
  | _, [] => rfl
  | r, ch :: cs => by simp [rowsBy, rowsBy_length]
theorem rowsBy_last : ∀ (r : List Nat) (l : List (List Nat)), (rowsBy r l).getLast? = if l = [] then none else some (leadTo r l)
  | _, [] => rfl
  | r, [ch] => rfl
  | r, ch :: ch2 :: cs => by
    have h := rowsBy_last (sw r ch) (ch2 :: cs)
    have e : rowsBy r (ch :: ch2 :: cs) = sw r ch :: rowsBy (sw r ch) (ch2 :: cs) := rfl
    rw [e, List.getLast?_cons, h]
    rfl
/-- a lead of b bells -/
def okLead (b : Nat) (l : List (List Nat)) : Prop := ∀ ch ∈ l, fitsCh b ch
theorem leadTo_length {b : Nat} : ∀ {l : List (List Nat)} {r : List Nat}, okLead b l → r.length = b → (leadTo r l).length = b
  | [], _, _, h => h
  | ch :: cs, r, ok, h => by
    show (leadTo (sw r ch) cs).length = b
    refine leadTo_length (fun c hc => ok c (List.mem_cons_of_mem _ hc)) ?_
    rw [sw_length fun p hp => by rw [h]; exact (ok ch List.mem_cons_self).1 p hp, h]
/-- a row: the numbers below b are in it -/
def isRow (b : Nat) (r : List Nat) : Prop := r.length = b ∧ ∀ x, x < b → x ∈ r
theorem isRow_sw {b : Nat} {r ch : List Nat} (f : fitsCh b ch) (h : isRow b r) : isRow b (sw r ch) :=
  ⟨by rw [sw_length fun p hp => by rw [h.1]; exact f.1 p hp, h.1], fun x hx => (sw_mem fun p hp => by rw [h.1]; exact f.1 p hp).mpr (h.2 x hx)⟩
theorem isRow_rounds (b : Nat) : isRow b (List.range b) := ⟨by simp, fun x hx => by simpa using hx⟩
theorem isRow_leadTo {b : Nat} : ∀ {l : List (List Nat)} {r : List Nat}, okLead b l → isRow b r → isRow b (leadTo r l)
  | [], _, _, h => h
  | ch :: cs, r, ok, h => isRow_leadTo (l := cs) (fun c hc => ok c (List.mem_cons_of_mem _ hc)) (isRow_sw (ok ch List.mem_cons_self) h)
theorem isRow_rowsBy {b : Nat} : ∀ {l : List (List Nat)} {r : List Nat}, okLead b l → isRow b r → ∀ x ∈ rowsBy r l, isRow b x
  | [], _, _, _, x, hx => by cases hx
  | ch :: cs, r, ok, h, x, hx => by
    have h1 := isRow_sw (ok ch List.mem_cons_self) h
    rcases List.mem_cons.mp hx with rfl | hx
    · exact h1
    · exact isRow_rowsBy (l := cs) (fun c hc => ok c (List.mem_cons_of_mem _ hc)) h1 x hx
/-- the ways of a method -/
def waysN (lead : List (List Nat)) (calls : List (List Nat)) : List (List (List Nat)) := lead :: calls.map fun c => lead.dropLast ++ [c]
theorem waysN_len (lead : List (List Nat)) (calls : List (List Nat)) (hl : lead ≠ []) : ∀ w ∈ waysN lead calls, w.length = lead.length := by
  intro w hw
  rcases List.mem_cons.mp hw with rfl | hw
  · rfl
  · obtain ⟨c, _, rfl⟩ := List.mem_map.mp hw
    have : 0 < lead.length := List.length_pos_iff.mpr hl
    simp
    omega
theorem waysN_ok {b : Nat} {lead : List (List Nat)} {calls : List (List Nat)} (h1 : okLead b lead) (h2 : okLead b calls) : ∀ w ∈ waysN lead calls, okLead b w := by
  intro w hw
  rcases List.mem_cons.mp hw with rfl | hw
  · exact h1
  · obtain ⟨c, hc, rfl⟩ := List.mem_map.mp hw
    intro ch hch
    rcases List.mem_append.mp hch with h | h
    · exact h1 ch (List.dropLast_subset _ h)
    · rw [List.mem_singleton.mp h]; exact h2 c hc
def rowsIn (r : List Nat) (ws : List (List (List Nat))) : List Nat → List (List Nat)
  | [] => []
  | w :: cs => rowsBy r (ws.getD w []) ++ rowsIn (leadTo r (ws.getD w [])) ws cs
def headsIn (r : List Nat) (ws : List (List (List Nat))) : List Nat → List (List Nat)
  | [] => [r]
  | w :: cs => r :: headsIn (leadTo r (ws.getD w [])) ws cs
/-- a tour -/
structure Tour where
  b : Nat
  lead : List (List Nat)
  calls : List (List Nat)
  comp : List Nat
def tL (l : List (List Nat)) : D := .tup (l.map tN)
def lR (l : List (List Nat)) : D := .lst (l.map tN)
def Tour.d (t : Tour) : D := .tup [nD t.b, tL t.lead, tL t.calls, tN t.comp]
def Tour.ways (t : Tour) : List (List (List Nat)) := waysN t.lead t.calls
def Tour.rows (t : Tour) : List (List Nat) := List.range t.b :: rowsIn (List.range t.b) t.ways t.comp
def Tour.heads (t : Tour) : List (List Nat) := headsIn (List.range t.b) t.ways t.comp
/-- one that is drawn -/
structure Tour.Ok (t : Tour) : Prop where
  b1 : 2 ≤ t.b
  b2 : t.b ≤ 6
  l1 : 1 ≤ t.lead.length
  l2 : t.lead.length ≤ 24
  lk : okLead t.b t.lead
  c2 : t.calls.length ≤ 5
  ck : okLead t.b t.calls
  m2 : t.comp.length ≤ 40
  mw : ∀ w ∈ t.comp, w ≤ t.calls.length
theorem Tour.Ok.way {t : Tour} (h : t.Ok) {w : Nat} (hw : w ≤ t.calls.length) : (t.ways.getD w []) ∈ t.ways := by
  have hl : t.ways.length = t.calls.length + 1 := by simp [Tour.ways, waysN]
  rw [List.getD_eq_getElem?_getD, List.getElem?_eq_getElem (by omega)]
  exact List.getElem_mem _
theorem Tour.Ok.ne {t : Tour} (h : t.Ok) : t.lead ≠ [] := fun z => by have := h.l1; rw [z] at this; simp at this
theorem Tour.Ok.wayLen {t : Tour} (h : t.Ok) {w : Nat} (hw : w ≤ t.calls.length) : (t.ways.getD w []).length = t.lead.length := waysN_len _ _ h.ne _ (h.way hw)
theorem Tour.Ok.wayOk {t : Tour} (h : t.Ok) {w : Nat} (hw : w ≤ t.calls.length) : okLead t.b (t.ways.getD w []) := waysN_ok h.lk h.ck _ (h.way hw)
theorem isRow_rowsIn {b : Nat} {ws : List (List (List Nat))} : ∀ {cs r : List Nat}, (∀ w ∈ cs, okLead b (ws.getD w [])) → isRow b r → ∀ x ∈ rowsIn r ws cs, isRow b x
  | [], _, _, _, x, hx => by cases hx
  | w :: cs, r, ok, h, x, hx => by
    have h1 := ok w List.mem_cons_self
    rcases List.mem_append.mp hx with hx | hx
    · exact isRow_rowsBy h1 h x hx
    · exact isRow_rowsIn (fun v hv => ok v (List.mem_cons_of_mem _ hv)) (isRow_leadTo h1 h) x hx
theorem Tour.Ok.rowOk {t : Tour} (h : t.Ok) : ∀ x ∈ t.rows, isRow t.b x := by
  intro x hx
  rcases List.mem_cons.mp hx with rfl | hx
  · exact isRow_rounds _
  · exact isRow_rowsIn (fun w hw => h.wayOk (h.mw w hw)) (isRow_rounds _) x hx
theorem rowsIn_length {L : Nat} {ws : List (List (List Nat))} : ∀ {cs r : List Nat}, (∀ w ∈ cs, (ws.getD w []).length = L) → (rowsIn r ws cs).length = cs.length * L
  | [], _, _ => by simp [rowsIn]
  | w :: cs, r, h => by
    simp only [rowsIn, List.length_append, rowsBy_length, h w List.mem_cons_self, rowsIn_length fun v hv => h v (List.mem_cons_of_mem _ hv), List.length_cons, Nat.add_mul]
    omega
/-- the last row so far -/
def endOf (r : List Nat) (ws : List (List (List Nat))) (cs : List Nat) : List Nat := cs.foldl (fun r w => leadTo r (ws.getD w [])) r
theorem rowsIn_snoc (ws : List (List (List Nat))) : ∀ (cs : List Nat) (w : Nat) (r : List Nat), rowsIn r ws (cs ++ [w]) = rowsIn r ws cs ++ rowsBy (endOf r ws cs) (ws.getD w [])
  | [], w, r => by simp [rowsIn, endOf]
  | v :: cs, w, r => by
    simp only [List.cons_append, rowsIn, rowsIn_snoc ws cs w, List.append_assoc]
    rfl
theorem headsIn_snoc (ws : List (List (List Nat))) : ∀ (cs : List Nat) (w : Nat) (r : List Nat), headsIn r ws (cs ++ [w]) = headsIn r ws cs ++ [endOf r ws (cs ++ [w])]
  | [], w, r => rfl
  | v :: cs, w, r => by
    simp only [List.cons_append, headsIn, headsIn_snoc ws cs w]
    rfl
theorem headsIn_last (ws : List (List (List Nat))) : ∀ (cs : List Nat) (r : List Nat), (headsIn r ws cs).getLast? = some (endOf r ws cs)
  | [], r => rfl
  | v :: cs, r => by
    simp only [headsIn, List.getLast?_cons, headsIn_last ws cs]
    rfl
theorem endOf_snoc (ws : List (List (List Nat))) (cs : List Nat) (w : Nat) (r : List Nat) : endOf r ws (cs ++ [w]) = leadTo (endOf r ws cs) (ws.getD w []) := by
  unfold endOf
  rw [List.foldl_append]
  rfl
theorem headsIn_length (ws : List (List (List Nat))) : ∀ (cs r : List Nat), (headsIn r ws cs).length = cs.length + 1
  | [], _ => rfl
  | w :: cs, r => by simp [headsIn, headsIn_length ws cs]
theorem rowsBy_split (r : List Nat) {W : List (List Nat)} (h : W ≠ []) : ∃ init, rowsBy r W = init ++ [leadTo r W] ∧ init.length + 1 = W.length := by
  have h1 := rowsBy_last r W
  rw [if_neg h] at h1
  rcases List.eq_nil_or_concat (rowsBy r W) with e | ⟨init, x, e⟩
  · rw [e] at h1; cases h1
  · rw [List.concat_eq_append] at e
    rw [e] at h1
    simp at h1
    subst h1
    refine ⟨init, e, ?_⟩
    have h3 := congrArg List.length e
    rw [rowsBy_length] at h3
    simpa using h3.symm
theorem filterMap_get {α : Type} : ∀ l : List α, (List.range l.length).filterMap (fun k => l[k]?) = l
  | [] => rfl
  | x :: l => by
    rw [List.length_cons, List.range_succ_eq_map, List.filterMap_cons, List.filterMap_map]
    simp only [List.getElem?_cons_zero]
    congr 1
    exact filterMap_get l
theorem rows_heads {L : Nat} (hL : 1 ≤ L) {ws : List (List (List Nat))} : ∀ (cs r : List Nat) (k : Nat), (∀ w ∈ cs, (ws.getD w []).length = L) → (r :: rowsIn r ws cs)[L * k]? = (headsIn r ws cs)[k]?
  | [], r, 0, _ => rfl
  | w :: cs, r, 0, _ => rfl
  | [], r, k + 1, _ => by
    have : 1 ≤ L * (k + 1) := Nat.one_le_iff_ne_zero.mpr (Nat.mul_ne_zero (by omega) (by omega))
    obtain ⟨j, hj⟩ : ∃ j, L * (k + 1) = j + 1 := ⟨L * (k + 1) - 1, by omega⟩
    rw [hj]
    simp [rowsIn, headsIn]
  | w :: cs, r, k + 1, h => by
    have hW := h w List.mem_cons_self
    have hne : ws.getD w [] ≠ [] := fun z => by rw [z] at hW; simp at hW; omega
    obtain ⟨init, e1, e2⟩ := rowsBy_split r hne
    have ih := rows_heads hL cs (leadTo r (ws.getD w [])) k fun v hv => h v (List.mem_cons_of_mem _ hv)
    have e3 : L * (k + 1) = (init.length + L * k) + 1 := by rw [Nat.mul_add]; omega
    rw [e3, List.getElem?_cons_succ]
    simp only [rowsIn, headsIn, e1, List.getElem?_cons_succ, ← ih]
    rw [List.append_assoc, List.getElem?_append_right (by omega)]
    rw [show init.length + L * k - init.length = L * k by omega]
    rfl
theorem rows_pick {L : Nat} (hL : 1 ≤ L) {ws : List (List (List Nat))} (cs r : List Nat) (h : ∀ w ∈ cs, (ws.getD w []).length = L) :
    (List.range (((r :: rowsIn r ws cs).length + L - 1) / L)).filterMap (fun k => ((r :: rowsIn r ws cs).map tN)[L * k]?) = (headsIn r ws cs).map tN := by
  have e : ((r :: rowsIn r ws cs).length + L - 1) / L = cs.length + 1 := by
    rw [List.length_cons, rowsIn_length h]
    rw [show cs.length * L + 1 + L - 1 = L * (cs.length + 1) by rw [Nat.mul_add, Nat.mul_comm]; omega]
    exact Nat.mul_div_cancel_left _ (by omega)
  rw [e]
  have e2 : (fun k => ((r :: rowsIn r ws cs).map tN)[L * k]?) = fun k => ((headsIn r ws cs).map tN)[k]? := by
    funext k
    rw [List.getElem?_map, List.getElem?_map, rows_heads hL cs r k h]
  rw [e2]
  have e3 : cs.length + 1 = ((headsIn r ws cs).map tN).length := by rw [List.length_map, headsIn_length]
  rw [e3]
  exact filterMap_get _
/-! ### draws -/
def CupOk : Cup → Prop
  | some (x, y) => 0 ≤ x ∧ 0 ≤ y ∧ y < 4294967296
  | none => False
/-- a draw, and what is true of the thing -/
def Draws (m : M D) (P : D → Prop) : Prop := ∀ c, CupOk c → ∃ d c', m c = .ok d c' ∧ P d ∧ CupOk c'
theorem fmod_nat (x : Int) {n : Nat} (h : 0 < n) : ∃ r : Nat, r < n ∧ x.fmod (n : Int) = (r : Int) := by
  have h1 : x.fmod (n : Int) = x % (n : Int) := Int.fmod_eq_emod_of_nonneg x (by omega)
  have h2 := Int.emod_nonneg x (show (n : Int) ≠ 0 by omega)
  have h3 := Int.emod_lt_of_pos x (show (0 : Int) < (n : Int) by omega)
  exact ⟨(x % (n : Int)).toNat, by omega, by omega⟩
theorem fmod_bounds (x : Int) {n : Int} (h : 0 < n) : 0 ≤ x.fmod n ∧ x.fmod n < n := by
  rw [Int.fmod_eq_emod_of_nonneg x (by omega)]
  exact ⟨Int.emod_nonneg x (by omega), Int.emod_lt_of_pos x h⟩
theorem fdiv_nonneg {x n : Int} (h : 0 ≤ x) (h2 : 0 < n) : 0 ≤ x.fdiv n := by
  rw [Int.fdiv_eq_ediv_of_nonneg x (by omega)]
  exact Int.ediv_nonneg h (by omega)
theorem mul_ok {i j : Int} (h : (-(2 ^ 64) < i ∧ i < 2 ^ 64) ∨ (-(2 ^ 64) < j ∧ j < 2 ^ 64)) : opB .mul (.int i) (.int j) = some (.int (i * j)) := if_pos h
theorem fdiv_ok {i j : Int} (h : j ≠ 0 ∧ j.natAbs < 1073741824) : opB .fdiv (.int i) (.int j) = some (.int (i.fdiv j)) := if_pos h
theorem mod_ok {i j : Int} (h : j ≠ 0) : opB .mod (.int i) (.int j) = some (.int (i.fmod j)) := if_pos h
theorem mulL_ok {xs : List D} {k : Int} (h : 0 ≤ k ∧ k ≤ 1000 ∧ xs.length ≤ 1000) : opB .mul (.lst xs) (.int k) = some (.lst (List.replicate k.toNat xs).flatten) := if_pos h
theorem mulT_ok {xs : List D} {k : Int} (h : 1 ≤ k ∧ k ≤ 1000 ∧ xs.length ≤ 1000) : opB .mul (.tup xs) (.int k) = some (.tup (List.replicate k.toNat xs).flatten) := if_pos h
/-- the change of a hunt -/
def huntCh (b a : Nat) : List Nat := (List.range ((b - 1 - a % 2 + 1) / 2)).map fun k => a % 2 + 2 * k
def huntN (b : Nat) : List (List Nat) := (List.range (2 * b)).map (huntCh b)
theorem huntCh_in {b a : Nat} (hb : b ∈ [2, 3, 4, 5]) : huntCh b a ∈ chsN b := by
  have k : ∀ b ∈ [2, 3, 4, 5], ∀ a ∈ [0, 1], huntCh b a ∈ chsN b := by decide
  have e : huntCh b a = huntCh b (a % 2) := by unfold huntCh; rw [Nat.mod_mod]
  rw [e]
  refine k b hb _ ?_
  have := Nat.mod_lt a (show 0 < 2 by decide)
  have h : a % 2 = 0 ∨ a % 2 = 1 := by omega
  rcases h with h | h <;> rw [h] <;> simp
theorem huntC_eq {b : Nat} (hb : b ∈ [2, 3, 4, 5]) (a : Nat) : rgCOk (((a : Nat) : Int).fmod 2) ((b : Int) - 1) 2 = true ∧ rangeC (((a : Nat) : Int).fmod 2) ((b : Int) - 1) 2 = (huntCh b a).map nD := by
  have e : huntCh b a = huntCh b (a % 2) := by unfold huntCh; rw [Nat.mod_mod]
  have e2 : ((a : Nat) : Int).fmod 2 = ((a % 2 : Nat) : Int) := by
    rw [Int.fmod_eq_emod_of_nonneg _ (by decide)]
    omega
  rw [e, e2]
  have h : a % 2 = 0 ∨ a % 2 = 1 := by omega
  simp only [List.mem_cons, List.not_mem_nil, or_false] at hb
  rcases h with h | h <;> rcases hb with rfl | rfl | rfl | rfl <;> rw [h] <;> exact ⟨by decide, rfl⟩
/-- a list so many times -/
def repL {α : Type} (k : Nat) (l : List α) : List α := (List.replicate k l).flatten
theorem repL_length {α : Type} (k : Nat) (l : List α) : (repL k l).length = k * l.length := by simp [repL, List.length_flatten]
theorem repL_mem {α : Type} {k : Nat} {l : List α} {x : α} (h : x ∈ repL k l) : x ∈ l := by
  obtain ⟨m, hm, hx⟩ := List.mem_flatten.mp h
  rw [(List.mem_replicate.mp hm).2] at hx
  exact hx
theorem repL_map {α β : Type} (f : α → β) (k : Nat) (l : List α) : (List.replicate k (l.map f)).flatten = (repL k l).map f := by
  induction k with
  | zero => rfl
  | succ k ih =>
    have e : repL (k + 1) l = l ++ repL k l := by unfold repL; rw [List.replicate_succ, List.flatten_cons]
    rw [List.replicate_succ, List.flatten_cons, ih, e, List.map_append]
theorem mul_tL {k : Nat} {l : List (List Nat)} (h : 1 ≤ k) (h2 : k ≤ 1000) (h3 : l.length ≤ 1000) : opB .mul (tL l) (.int (k : Int)) = some (tL (repL k l)) := by
  show opB .mul (.tup (l.map tN)) (.int (k : Int)) = _
  rw [mulT_ok ⟨by omega, by omega, by simpa using h3⟩, Int.toNat_natCast, repL_map]
  rfl
theorem mul_tN {k : Nat} {l : List Nat} (h : 1 ≤ k) (h2 : k ≤ 1000) (h3 : l.length ≤ 1000) : opB .mul (tN l) (.int (k : Int)) = some (tN (repL k l)) := by
  show opB .mul (.tup (l.map nD)) (.int (k : Int)) = _
  rw [mulT_ok ⟨by omega, by omega, by simpa using h3⟩, Int.toNat_natCast, repL_map]
  rfl
end PF
end

/-! ## PfP -/
section
/-! PfP: rows as permutations; where bells stand; crossings. -/
set_option linter.all false
set_option autoImplicit false
namespace PF
open PySem
theorem sw1_perm {r : List Nat} {p : Nat} (h : p + 1 < r.length) : (sw1 r p).Perm r := by
  have h0 : p < r.length := by omega
  have e : r = r.take p ++ (r.getD p 0 :: r.getD (p + 1) 0 :: r.drop (p + 2)) := by
    have e1 : r.drop p = r.getD p 0 :: r.drop (p + 1) := by
      rw [List.drop_eq_getElem_cons h0]; simp [List.getElem?_eq_getElem h0]
    have e2 : r.drop (p + 1) = r.getD (p + 1) 0 :: r.drop (p + 2) := by
      rw [List.drop_eq_getElem_cons h]; simp [List.getElem?_eq_getElem h]
    rw [← e2, ← e1, List.take_append_drop]
  conv => rhs; rw [e]
  unfold sw1
  exact List.Perm.append_left _ (List.Perm.swap _ _ _)
theorem sw_perm : ∀ {ch r : List Nat}, (∀ p ∈ ch, p + 1 < r.length) → (sw r ch).Perm r
  | [], _, _ => List.Perm.refl _
  | p :: ch, r, h => by
    have h1 := h p List.mem_cons_self
    rw [sw_cons]
    exact (sw_perm fun q hq => by rw [sw1_length h1]; exact h q (List.mem_cons_of_mem _ hq)).trans (sw1_perm h1)
/-- where a change brings what stands at a place -/
def shift : List Nat → Nat → Nat
  | [], i => i
  | p :: ch, i => if i = p then p + 1 else if i = p + 1 then p else shift ch i
theorem shift_low : ∀ {ch : List Nat} {i : Nat}, (∀ q ∈ ch, i < q) → shift ch i = i
  | [], _, _ => rfl
  | q :: ch, i, h => by
    have := h q List.mem_cons_self
    unfold shift
    rw [if_neg (by omega), if_neg (by omega), shift_low fun x hx => h x (List.mem_cons_of_mem _ hx)]
theorem sw_get : ∀ {ch r : List Nat} (i : Nat), (∀ p ∈ ch, p + 1 < r.length) → List.Pairwise (fun p q => p + 1 < q) ch → (sw r ch)[shift ch i]? = r[i]?
  | [], _, _, _, _ => rfl
  | p :: ch, r, i, h, hp => by
    have h1 := h p List.mem_cons_self
    have hq := (List.pairwise_cons.mp hp).1
    have ih := fun j => sw_get (ch := ch) (r := sw1 r p) j (fun q hq => by rw [sw1_length h1]; exact h q (List.mem_cons_of_mem _ hq)) (List.pairwise_cons.mp hp).2
    rw [sw_cons]
    unfold shift
    split
    · rename_i e
      subst e
      have := ih (i + 1)
      rw [shift_low fun q hq' => hq q hq'] at this
      rw [this, sw1_get h1, if_neg (by omega), if_pos rfl]
    · split
      · rename_i e1 e2
        subst e2
        have := ih p
        rw [shift_low fun q hq' => by have := hq q hq'; omega] at this
        rw [this, sw1_get h1, if_pos rfl]
      · rename_i e1 e2
        rw [ih i, sw1_get h1, if_neg e1, if_neg e2]
theorem idx_get {r : List Nat} {x : Nat} (h : x ∈ r) : r[r.idxOf x]? = some x := by
  rw [List.getElem?_eq_getElem (List.idxOf_lt_length_iff.mpr h)]
  simp
theorem nodup_inj {r : List Nat} (nd : r.Nodup) {i j : Nat} (hi : i < r.length) (hj : j < r.length) (e : r[i] = r[j]) : i = j := by
  have h := List.pairwise_iff_getElem.mp nd
  rcases Nat.lt_trichotomy i j with z | z | z
  · exact absurd e (h i j hi hj z)
  · exact z
  · exact absurd e.symm (h j i hj hi z)
theorem idx_of_get {r : List Nat} {x i : Nat} (nd : r.Nodup) (h : r[i]? = some x) : r.idxOf x = i := by
  have hx : x ∈ r := List.mem_of_getElem? h
  have hi : i < r.length := (List.getElem?_eq_some_iff.mp h).1
  have h1 := List.idxOf_lt_length_iff.mpr hx
  have e1 : r[r.idxOf x] = r[i] := by
    have := (List.getElem?_eq_some_iff.mp h).2
    rw [this]; simp
  exact nodup_inj nd h1 hi e1
theorem idx_sw {b : Nat} {r ch : List Nat} {x : Nat} (f : fitsCh b ch) (hr : r.length = b) (nd : r.Nodup) (hx : x ∈ r) : (sw r ch).idxOf x = shift ch (r.idxOf x) := by
  have hb : ∀ p ∈ ch, p + 1 < r.length := fun p hp => by rw [hr]; exact f.1 p hp
  refine idx_of_get ((sw_perm hb).nodup_iff.mpr nd) ?_
  rw [sw_get _ hb f.2]
  exact idx_get hx
theorem shift_cases : ∀ {ch : List Nat} (i : Nat), List.Pairwise (fun p q => p + 1 < q) ch → (i ∈ ch ∧ shift ch i = i + 1) ∨ (i ∉ ch ∧ ∃ p ∈ ch, i = p + 1 ∧ shift ch i = p) ∨ (i ∉ ch ∧ (∀ p ∈ ch, i ≠ p + 1) ∧ shift ch i = i)
  | [], i, _ => .inr (.inr ⟨by simp, by simp, rfl⟩)
  | p :: ch, i, hp => by
    have hq := (List.pairwise_cons.mp hp).1
    unfold shift
    by_cases e1 : i = p
    · subst e1; left; simp
    · by_cases e2 : i = p + 1
      · subst e2
        refine .inr (.inl ⟨?_, p, List.mem_cons_self, rfl, by simp⟩)
        simp only [List.mem_cons, not_or]
        exact ⟨by omega, fun z => by have := hq _ z; omega⟩
      · rw [if_neg e1, if_neg e2]
        rcases shift_cases (ch := ch) i (List.pairwise_cons.mp hp).2 with ⟨h1, h2⟩ | ⟨h1, q, h2, h3, h4⟩ | ⟨h1, h2, h3⟩
        · exact .inl ⟨List.mem_cons_of_mem _ h1, h2⟩
        · exact .inr (.inl ⟨by simp [e1, h1], q, List.mem_cons_of_mem _ h2, h3, h4⟩)
        · refine .inr (.inr ⟨by simp [e1, h1], fun q hq' => ?_, h3⟩)
          rcases List.mem_cons.mp hq' with rfl | hq'
          · exact e2
          · exact h2 q hq'
/-- two places are exchanged in their order just where the change moves both -/
theorem shift_cross {ch : List Nat} {i j : Nat} (hp : List.Pairwise (fun p q => p + 1 < q) ch) (hij : i ≠ j) : ((decide (i < j)) != decide (shift ch i < shift ch j)) = true ↔ ∃ p ∈ ch, (i = p ∧ j = p + 1) ∨ (j = p ∧ i = p + 1) := by
  have gap : ∀ p ∈ ch, ∀ q ∈ ch, p < q → p + 1 < q := by
    clear hij
    induction ch with
    | nil => intro p h; cases h
    | cons a ch ih =>
      intro p hpp q hq hlt
      rcases List.mem_cons.mp hpp with rfl | hpp
      · rcases List.mem_cons.mp hq with rfl | hq
        · omega
        · exact (List.pairwise_cons.mp hp).1 q hq
      · rcases List.mem_cons.mp hq with rfl | hq
        · have := (List.pairwise_cons.mp hp).1 p ‹_›; omega
        · exact ih (List.pairwise_cons.mp hp).2 p hpp q hq hlt
  have key : ((decide (i < j)) != decide (shift ch i < shift ch j)) = true ↔ ¬ ((i < j) ↔ (shift ch i < shift ch j)) := by
    by_cases a : i < j <;> by_cases b : shift ch i < shift ch j <;> simp [a, b]
  rw [key]
  rcases shift_cases i hp with ⟨a1, a2⟩ | ⟨a1, p, a2, a3, a4⟩ | ⟨a1, a2, a3⟩ <;> rcases shift_cases j hp with ⟨b1, b2⟩ | ⟨b1, q, b2, b3, b4⟩ | ⟨b1, b2, b3⟩
  · have h1 : i < j → i + 1 < j := gap i a1 j b1
    have h2 : j < i → j + 1 < i := gap j b1 i a1
    constructor
    · intro h; exfalso; apply h; omega
    · rintro ⟨p, hp1, hh⟩ hc
      rcases hh with ⟨h3, h4⟩ | ⟨h3, h4⟩ <;> omega
  · constructor
    · intro h
      have h1 : i < q → i + 1 < q := gap i a1 q b2
      have h2 : q < i → q + 1 < i := gap q b2 i a1
      have : i = q := by
        refine Decidable.byContradiction fun z => h ?_
        omega
      exact ⟨i, a1, .inl ⟨rfl, by omega⟩⟩
    · rintro ⟨p, hp1, hh⟩ hc
      have h1 : p < q → p + 1 < q := gap p hp1 q b2
      have h2 : q < p → q + 1 < p := gap q b2 p hp1
      have h3 : i < q → i + 1 < q := gap i a1 q b2
      have h4 : q < i → q + 1 < i := gap q b2 i a1
      rcases hh with ⟨h5, h6⟩ | ⟨h5, h6⟩
      · omega
      · subst h5; exact absurd hp1 b1
  · constructor
    · intro h; exfalso; apply h
      have := b2 i a1
      omega
    · rintro ⟨p, hp1, hh⟩
      rcases hh with ⟨h5, h6⟩ | ⟨h5, h6⟩
      · exact absurd h6 (b2 p hp1)
      · subst h5; exact absurd hp1 b1
  · constructor
    · intro h
      have h1 : j < p → j + 1 < p := gap j b1 p a2
      have h2 : p < j → p + 1 < j := gap p a2 j b1
      have : j = p := by
        refine Decidable.byContradiction fun z => h ?_
        omega
      exact ⟨j, b1, .inr ⟨rfl, by omega⟩⟩
    · rintro ⟨q, hp1, hh⟩ hc
      have h1 : p < q → p + 1 < q := gap p a2 q hp1
      have h2 : q < p → q + 1 < p := gap q hp1 p a2
      have h3 : j < p → j + 1 < p := gap j b1 p a2
      have h4 : p < j → p + 1 < j := gap p a2 j b1
      rcases hh with ⟨h5, h6⟩ | ⟨h5, h6⟩
      · subst h5; exact absurd hp1 a1
      · omega
  · constructor
    · intro h; exfalso; apply h
      have h1 : p < q → p + 1 < q := gap p a2 q b2
      have h2 : q < p → q + 1 < p := gap q b2 p a2
      omega
    · rintro ⟨s, hs, hh⟩
      rcases hh with ⟨h5, h6⟩ | ⟨h5, h6⟩
      · subst h5; exact absurd hs a1
      · subst h5; exact absurd hs b1
  · constructor
    · intro h; exfalso; apply h
      have : j ≠ p := fun z => b1 (by rw [z]; exact a2)
      omega
    · rintro ⟨s, hs, hh⟩
      rcases hh with ⟨h5, h6⟩ | ⟨h5, h6⟩
      · subst h5; exact absurd hs a1
      · subst h5; exact absurd hs b1
  · constructor
    · intro h; exfalso; apply h
      have := a2 j b1
      omega
    · rintro ⟨s, hs, hh⟩
      rcases hh with ⟨h5, h6⟩ | ⟨h5, h6⟩
      · subst h5; exact absurd hs a1
      · exact absurd h6 (a2 s hs)
  · constructor
    · intro h; exfalso; apply h
      have : i ≠ q := fun z => a1 (by rw [z]; exact b2)
      omega
    · rintro ⟨s, hs, hh⟩
      rcases hh with ⟨h5, h6⟩ | ⟨h5, h6⟩
      · subst h5; exact absurd hs a1
      · subst h5; exact absurd hs b1
  · constructor
    · intro h; exfalso; apply h; omega
    · rintro ⟨s, hs, hh⟩
      rcases hh with ⟨h5, h6⟩ | ⟨h5, h6⟩
      · subst h5; exact absurd hs a1
      · subst h5; exact absurd hs b1
end PF
end

/-! ## PfC -/
section
/-! PfC: crossings. -/
set_option linter.all false
set_option autoImplicit false
namespace PF
open PySem
def ahd (x y : Nat) (r : List Nat) : Bool := decide (r.idxOf x < r.idxOf y)
def crs (x y : Nat) : Nat → List (List Nat) → List Nat
  | k, r :: r' :: rest => (if ahd x y r != ahd x y r' then [k] else []) ++ crs x y (k + 1) (r' :: rest)
  | _, _ => []
def exch (r : List Nat) : List (List Nat) → List (List (Nat × Nat))
  | [] => []
  | ch :: cs => (ch.map fun p => (min (r.getD p 0) (r.getD (p + 1) 0), max (r.getD p 0) (r.getD (p + 1) 0))) :: exch (sw r ch) cs
theorem crs_filter (x y : Nat) : ∀ (rows : List (List Nat)) (k : Nat), (List.range (rows.length - 1)).filterMap (fun i => if (rows.map (ahd x y)).getD i false != (rows.map (ahd x y)).getD (i + 1) false then some (k + i) else none) = crs x y k rows
  | [], _ => rfl
  | [r], _ => rfl
  | r :: r' :: rest, k => by
    have ih := crs_filter x y (r' :: rest) (k + 1)
    simp only [List.length_cons, Nat.add_sub_cancel] at ih ⊢
    rw [List.range_succ_eq_map, List.filterMap_cons, List.filterMap_map]
    have e : (List.range rest.length).filterMap ((fun i => if (List.map (ahd x y) (r :: r' :: rest)).getD i false != (List.map (ahd x y) (r :: r' :: rest)).getD (i + 1) false then some (k + i) else none) ∘ Nat.succ) = crs x y (k + 1) (r' :: rest) := by
      rw [← ih]
      congr 1
      funext i
      show (if (List.map (ahd x y) (r :: r' :: rest)).getD (i + 1) false != (List.map (ahd x y) (r :: r' :: rest)).getD (i + 1 + 1) false then some (k + (i + 1)) else none) = _
      rw [show k + (i + 1) = k + 1 + i by omega]
      rfl
    rw [e]
    have ec : crs x y k (r :: r' :: rest) = (if ahd x y r != ahd x y r' then [k] else []) ++ crs x y (k + 1) (r' :: rest) := rfl
    rw [ec]
    by_cases h : (ahd x y r != ahd x y r') = true
    · have h2 : ((List.map (ahd x y) (r :: r' :: rest)).getD 0 false != (List.map (ahd x y) (r :: r' :: rest)).getD (0 + 1) false) = true := h
      rw [if_pos h, if_pos h2]
      rw [Nat.add_zero]
      rfl
    · have h2 : ¬ ((List.map (ahd x y) (r :: r' :: rest)).getD 0 false != (List.map (ahd x y) (r :: r' :: rest)).getD (0 + 1) false) = true := h
      rw [if_neg h, if_neg h2]
      rfl
theorem idx_inj {r : List Nat} {x y : Nat} (hx : x ∈ r) (hy : y ∈ r) (e : r.idxOf x = r.idxOf y) : x = y := by
  have h1 := idx_get hx
  have h2 := idx_get hy
  rw [e, h2] at h1
  exact (Option.some.inj h1).symm
theorem cross_one {b x y : Nat} {r ch : List Nat} (f : fitsCh b ch) (hr : r.length = b) (nd : r.Nodup) (hx : x ∈ r) (hy : y ∈ r) :
    (ahd x y r != ahd x y (sw r ch)) = decide ((min x y, max x y) ∈ ch.map fun p => (min (r.getD p 0) (r.getD (p + 1) 0), max (r.getD p 0) (r.getD (p + 1) 0))) := by
  have hb : ∀ p ∈ ch, p + 1 < r.length := fun p hp => by rw [hr]; exact f.1 p hp
  have get0 : ∀ p, p < r.length → r.getD p 0 = r[p]! := fun p hp => by simp [hp]
  unfold ahd
  rw [idx_sw f hr nd hx, idx_sw f hr nd hy]
  by_cases hxy : x = y
  · subst hxy
    have : ¬ (min x x, max x x) ∈ ch.map fun p => (min (r.getD p 0) (r.getD (p + 1) 0), max (r.getD p 0) (r.getD (p + 1) 0)) := by
      intro h
      obtain ⟨p, hp, e⟩ := List.mem_map.mp h
      have h1 := hb p hp
      simp only [Nat.min_self, Nat.max_self, Prod.mk.injEq] at e
      have e2 : r.getD p 0 = r.getD (p + 1) 0 := by omega
      have h0 : p < r.length := by omega
      have e3 : r[p] = r[p + 1] := by simpa [h0, h1] using e2
      have := nodup_inj nd h0 h1 e3
      omega
    rw [show (decide ((min x x, max x x) ∈ ch.map fun p => (min (r.getD p 0) (r.getD (p + 1) 0), max (r.getD p 0) (r.getD (p + 1) 0)))) = false from decide_eq_false this]
    simp
  · have hij : r.idxOf x ≠ r.idxOf y := fun e => hxy (idx_inj hx hy e)
    have key := shift_cross (i := r.idxOf x) (j := r.idxOf y) f.2 hij
    have gx := idx_get hx
    have gy := idx_get hy
    rw [Bool.eq_iff_iff, key, decide_eq_true_iff]
    constructor
    · rintro ⟨p, hp, ⟨e1, e2⟩ | ⟨e1, e2⟩⟩
      · refine List.mem_map.mpr ⟨p, hp, ?_⟩
        rw [e1] at gx; rw [e2] at gy
        have a1 : r.getD p 0 = x := by simp [List.getD_eq_getElem?_getD, gx]
        have a2 : r.getD (p + 1) 0 = y := by simp [List.getD_eq_getElem?_getD, gy]
        rw [a1, a2]
      · refine List.mem_map.mpr ⟨p, hp, ?_⟩
        rw [e2] at gx; rw [e1] at gy
        have a1 : r.getD (p + 1) 0 = x := by simp [List.getD_eq_getElem?_getD, gx]
        have a2 : r.getD p 0 = y := by simp [List.getD_eq_getElem?_getD, gy]
        rw [a1, a2]
        rw [Nat.min_comm, Nat.max_comm]
    · intro h
      obtain ⟨p, hp, e⟩ := List.mem_map.mp h
      have h1 := hb p hp
      have h0 : p < r.length := by omega
      simp only [Prod.mk.injEq] at e
      have g0 : r[p]? = some (r.getD p 0) := by simp [h0]
      have g1 : r[p + 1]? = some (r.getD (p + 1) 0) := by simp [h1]
      have cases2 : (r.getD p 0 = x ∧ r.getD (p + 1) 0 = y) ∨ (r.getD p 0 = y ∧ r.getD (p + 1) 0 = x) := by omega
      rcases cases2 with ⟨a1, a2⟩ | ⟨a1, a2⟩
      · rw [a1] at g0; rw [a2] at g1
        exact ⟨p, hp, .inl ⟨idx_of_get nd g0, idx_of_get nd g1⟩⟩
      · rw [a1] at g0; rw [a2] at g1
        exact ⟨p, hp, .inr ⟨idx_of_get nd g0, idx_of_get nd g1⟩⟩
/-- what pairs are exchanged, told by index -/
def exAt (q : Nat × Nat) (k : Nat) (ex : List (List (Nat × Nat))) : List Nat := (ex.zipIdx k).filterMap fun e => if q ∈ e.1 then some e.2 else none
theorem crs_exch {b x y : Nat} : ∀ {flat : List (List Nat)} {r : List Nat} (k : Nat), okLead b flat → r.length = b → r.Nodup → x ∈ r → y ∈ r → crs x y k (r :: rowsBy r flat) = exAt (min x y, max x y) k (exch r flat)
  | [], r, k, _, _, _, _, _ => rfl
  | ch :: flat, r, k, ok, hr, nd, hx, hy => by
    have f := ok ch List.mem_cons_self
    have hb : ∀ p ∈ ch, p + 1 < r.length := fun p hp => by rw [hr]; exact f.1 p hp
    have ih := crs_exch (flat := flat) (r := sw r ch) (x := x) (y := y) (k + 1) (fun c hc => ok c (List.mem_cons_of_mem _ hc)) (by rw [sw_length hb, hr]) ((sw_perm hb).nodup_iff.mpr nd) ((sw_mem hb).mpr hx) ((sw_mem hb).mpr hy)
    have e1 : crs x y k (r :: rowsBy r (ch :: flat)) = (if ahd x y r != ahd x y (sw r ch) then [k] else []) ++ crs x y (k + 1) (sw r ch :: rowsBy (sw r ch) flat) := rfl
    rw [e1, ih, cross_one f hr nd hx hy]
    show _ = exAt _ k (_ :: exch (sw r ch) flat)
    unfold exAt
    rw [List.zipIdx_cons, List.filterMap_cons]
    simp only [decide_eq_true_eq]
    split <;> rename_i h <;> simp [h]
theorem crs_parity (x y : Nat) : ∀ (rows : List (List Nat)) (r : List Nat) (k : Nat), ((crs x y k (r :: rows)).length % 2 = 1) ↔ (ahd x y r != ahd x y ((r :: rows).getLast (by simp))) = true
  | [], r, k => by simp [crs]
  | r' :: rows, r, k => by
    have ih := crs_parity x y rows r' (k + 1)
    have e1 : crs x y k (r :: r' :: rows) = (if ahd x y r != ahd x y r' then [k] else []) ++ crs x y (k + 1) (r' :: rows) := rfl
    have e2 : (r :: r' :: rows).getLast (by simp) = (r' :: rows).getLast (by simp) := List.getLast_cons (by simp)
    rw [e1, e2, List.length_append]
    generalize (crs x y (k + 1) (r' :: rows)).length = n at ih ⊢
    generalize ahd x y ((r' :: rows).getLast (by simp)) = z at ih ⊢
    generalize ahd x y r' = u at ih ⊢
    generalize ahd x y r = v
    cases u <;> cases v <;> cases z <;> simp at ih ⊢ <;> omega
theorem idx_range {b x : Nat} (h : x < b) : (List.range b).idxOf x = x := idx_of_get List.nodup_range (by simp [h])
theorem rowsBy_append : ∀ (a b : List (List Nat)) (r : List Nat), rowsBy r (a ++ b) = rowsBy r a ++ rowsBy (leadTo r a) b
  | [], b, r => rfl
  | ch :: a, b, r => by
    simp only [List.cons_append, rowsBy, rowsBy_append a b]
    rfl
theorem exch_append : ∀ (a b : List (List Nat)) (r : List Nat), exch r (a ++ b) = exch r a ++ exch (leadTo r a) b
  | [], b, r => rfl
  | ch :: a, b, r => by
    simp only [List.cons_append, exch, exch_append a b]
    rfl
def flatOf (ws : List (List (List Nat))) (cs : List Nat) : List (List Nat) := cs.flatMap fun w => ws.getD w []
theorem rowsIn_flat (ws : List (List (List Nat))) : ∀ (cs r : List Nat), rowsIn r ws cs = rowsBy r (flatOf ws cs)
  | [], r => rfl
  | w :: cs, r => by
    simp only [rowsIn, flatOf, List.flatMap_cons, rowsBy_append]
    rw [rowsIn_flat ws cs]
    rfl
theorem flat_ok {b : Nat} {ws : List (List (List Nat))} {cs : List Nat} (h : ∀ w ∈ cs, okLead b (ws.getD w [])) : okLead b (flatOf ws cs) := fun ch hch => by
  obtain ⟨w, hw, hc⟩ := List.mem_flatMap.mp hch
  exact h w hw ch hc
theorem exch_length : ∀ (l : List (List Nat)) (r : List Nat), (exch r l).length = l.length
  | [], _ => rfl
  | ch :: l, r => by simp [exch, exch_length l]
def exD (l : List (Nat × Nat)) : D := .lst (l.map pD)
end PF
end

/-! ## PfL -/
section
/-! PfL: what pairs lead. -/
set_option linter.all false
set_option autoImplicit false
namespace PF
open PySem
/-- whether the first pair is met -/
def hitN (ws : List (List (List Nat))) (x : Nat) (head : List Nat) : List (Nat × Nat) → Bool
  | [] => false
  | (p, w) :: _ => decide ((leadTo head (ws.getD w [])).idxOf x = p)
def wayN (ws : List (List (List Nat))) (x : Nat) (head : List Nat) (left : List (Nat × Nat)) : Nat := if hitN ws x head left then (left.headD (0, 0)).2 else 0
def leftN (ws : List (List (List Nat))) (x : Nat) (head : List Nat) (left : List (Nat × Nat)) : List (Nat × Nat) := if hitN ws x head left then left.tail else left
def endN (rd head : List Nat) (found : List Nat) (left : List (Nat × Nat)) : Bool := decide (left = []) && (!decide (found = []) && decide (head = rd))
def ledN (ws : List (List (List Nat))) (x : Nat) (rd : List Nat) : Nat → List Nat → List Nat → List (Nat × Nat) → Option (List Nat)
  | 0, _, _, _ => none
  | n + 1, found, head, left => if endN rd head found left then some found else ledN ws x rd n (found ++ [wayN ws x head left]) (leadTo head (ws.getD (wayN ws x head left) [])) (leftN ws x head left)
def leads (t : Tour) (x : Nat) (left : List (Nat × Nat)) : Option (List Nat) := ledN t.ways x (List.range t.b) 41 [] (List.range t.b) left
theorem leftN_sub {ws : List (List (List Nat))} {x : Nat} {head : List Nat} {left : List (Nat × Nat)} : ∀ q ∈ leftN ws x head left, q ∈ left := by
  intro q hq
  unfold leftN at hq
  split at hq
  · exact List.mem_of_mem_tail hq
  · exact hq
theorem wayN_le {ws : List (List (List Nat))} {x k : Nat} {head : List Nat} {left : List (Nat × Nat)} (h : ∀ q ∈ left, q.2 ≤ k) : wayN ws x head left ≤ k := by
  unfold wayN
  split
  · cases left with
    | nil => exact Nat.zero_le _
    | cons q r => exact h q List.mem_cons_self
  · exact Nat.zero_le _
theorem ledN_ok {ws : List (List (List Nat))} {x k : Nat} {rd : List Nat} : ∀ (n : Nat) (found head : List Nat) (left : List (Nat × Nat)) (f : List Nat), (∀ q ∈ left, q.2 ≤ k) → (∀ w ∈ found, w ≤ k) → ledN ws x rd n found head left = some f → f.length + 1 ≤ found.length + n ∧ ∀ w ∈ f, w ≤ k
  | 0, _, _, _, _, _, _, h => by cases h
  | n + 1, found, head, left, f, hq, hf, h => by
    unfold ledN at h
    split at h
    · cases h
      exact ⟨by omega, hf⟩
    · obtain ⟨h1, h2⟩ := ledN_ok n _ _ _ f (fun q hq' => hq q (leftN_sub q hq')) (fun w hw => by
        rcases List.mem_append.mp hw with hw | hw
        · exact hf w hw
        · rw [List.mem_singleton.mp hw]; exact wayN_le hq) h
      exact ⟨by simp at h1; omega, h2⟩
/-- the pairs by which a composition is told -/
def toldN (heads : List (List Nat)) (comp : List Nat) (x : Nat) : List (Nat × Nat) := comp.zipIdx.filterMap fun q => if q.1 = 0 then none else some ((heads.getD (q.2 + 1) []).idxOf x, q.1)
def tP (l : List (Nat × Nat)) : D := .tup (l.map pD)
def oD : Option (List Nat) → D
  | some f => tN f
  | none => .non
theorem headsIn_rows {b : Nat} {ws : List (List (List Nat))} : ∀ (cs r : List Nat), (∀ w ∈ cs, okLead b (ws.getD w [])) → isRow b r → ∀ x ∈ headsIn r ws cs, isRow b x
  | [], r, _, hr, x, hx => by rw [List.mem_singleton.mp hx]; exact hr
  | w :: cs, r, ok, hr, x, hx => by
    rcases List.mem_cons.mp hx with rfl | hx
    · exact hr
    · exact headsIn_rows cs _ (fun v hv => ok v (List.mem_cons_of_mem _ hv)) (isRow_leadTo (ok w List.mem_cons_self) hr) x hx
theorem Tour.Ok.headOk {t : Tour} (h : t.Ok) : ∀ x ∈ t.heads, isRow t.b x := headsIn_rows _ _ (fun w hw => h.wayOk (h.mw w hw)) (isRow_rounds _)
theorem idx_lt {b x : Nat} {r : List Nat} (h : isRow b r) (hx : x < b) : r.idxOf x < b := by
  have := List.idxOf_lt_length_iff.mpr (h.2 x hx)
  rw [h.1] at this
  exact this
/-- ways of a method -/
structure WOk (b : Nat) (ws : List (List (List Nat))) : Prop where
  b2 : b ≤ 6
  b1 : 1 ≤ b
  ok : ∀ w ∈ ws, okLead b w ∧ w ≠ [] ∧ w.length ≤ 24
  n1 : 1 ≤ ws.length
theorem WOk.at_ {b : Nat} {ws : List (List (List Nat))} (h : WOk b ws) {w : Nat} (hw : w < ws.length) : okLead b (ws.getD w []) ∧ ws.getD w [] ≠ [] ∧ (ws.getD w []).length ≤ 24 := by
  have : ws.getD w [] = ws[w] := by simp [hw]
  rw [this]
  exact h.ok _ (List.getElem_mem _)
theorem Tour.Ok.wok {t : Tour} (h : t.Ok) : WOk t.b t.ways where
  b2 := h.b2
  b1 := by have := h.b1; omega
  n1 := by simp [Tour.ways, waysN]
  ok := fun w hw => by
    have h1 := waysN_len _ _ h.ne w hw
    have h2 := h.l1
    have h3 := h.l2
    exact ⟨waysN_ok h.lk h.ck w hw, fun z => by rw [z] at h1; simp at h1; omega, by omega⟩
end PF
end

/-! ## PfK -/
section
/-! PfK: paths of bells; leads that act. -/
set_option linter.all false
set_option autoImplicit false
namespace PF
open PySem
/-- the places to which a lead brings what begins at a place -/
def pathS : List (List Nat) → Nat → List Nat
  | [], _ => []
  | ch :: cs, p => shift ch p :: pathS cs (shift ch p)
def endS (W : List (List Nat)) (p : Nat) : Nat := W.foldl (fun p ch => shift ch p) p
theorem pathS_length : ∀ (W : List (List Nat)) (p : Nat), (pathS W p).length = W.length
  | [], _ => rfl
  | ch :: W, p => by simp [pathS, pathS_length]
theorem pathS_last : ∀ (W : List (List Nat)) (p : Nat), (p :: pathS W p).getLast? = some (endS W p)
  | [], p => rfl
  | ch :: W, p => by
    have := pathS_last W (shift ch p)
    show (p :: shift ch p :: pathS W (shift ch p)).getLast? = _
    rw [List.getLast?_cons_cons, this]
    rfl
theorem pathS_append : ∀ (A B : List (List Nat)) (p : Nat), pathS (A ++ B) p = pathS A p ++ pathS B (endS A p)
  | [], B, p => rfl
  | ch :: A, B, p => by
    simp only [List.cons_append, pathS, pathS_append A B]
    rfl
theorem endS_append (A B : List (List Nat)) (p : Nat) : endS (A ++ B) p = endS B (endS A p) := by simp [endS]
/-- a row: a permutation -/
structure isPerm (b : Nat) (r : List Nat) : Prop where
  nd : r.Nodup
  row : isRow b r
theorem isPerm_sw {b : Nat} {r ch : List Nat} (f : fitsCh b ch) (h : isPerm b r) : isPerm b (sw r ch) :=
  ⟨(sw_perm fun p hp => by rw [h.row.1]; exact f.1 p hp).nodup_iff.mpr h.nd, isRow_sw f h.row⟩
theorem isPerm_rounds (b : Nat) : isPerm b (List.range b) := ⟨List.nodup_range, isRow_rounds b⟩
theorem isPerm_leadTo {b : Nat} : ∀ {l : List (List Nat)} {r : List Nat}, okLead b l → isPerm b r → isPerm b (leadTo r l)
  | [], _, _, h => h
  | ch :: cs, r, ok, h => isPerm_leadTo (l := cs) (fun c hc => ok c (List.mem_cons_of_mem _ hc)) (isPerm_sw (ok ch List.mem_cons_self) h)
theorem idx_rowsBy {b x : Nat} (hx : x < b) : ∀ {W : List (List Nat)} {r : List Nat}, okLead b W → isPerm b r → (rowsBy r W).map (fun r => r.idxOf x) = pathS W (r.idxOf x)
  | [], _, _, _ => rfl
  | ch :: W, r, ok, h => by
    have f := ok ch List.mem_cons_self
    have e := idx_sw f h.row.1 h.nd (h.row.2 x hx)
    simp only [rowsBy, pathS, List.map_cons]
    rw [idx_rowsBy hx (fun c hc => ok c (List.mem_cons_of_mem _ hc)) (isPerm_sw f h), e]
theorem idx_leadTo {b x : Nat} (hx : x < b) : ∀ {W : List (List Nat)} {r : List Nat}, okLead b W → isPerm b r → (leadTo r W).idxOf x = endS W (r.idxOf x)
  | [], _, _, _ => rfl
  | ch :: W, r, ok, h => by
    have f := ok ch List.mem_cons_self
    have e := idx_sw f h.row.1 h.nd (h.row.2 x hx)
    show (leadTo (sw r ch) W).idxOf x = endS W (shift ch (r.idxOf x))
    rw [idx_leadTo hx (fun c hc => ok c (List.mem_cons_of_mem _ hc)) (isPerm_sw f h), e]
theorem shift_lt {b : Nat} {ch : List Nat} {p : Nat} (f : fitsCh b ch) (hp : p < b) : shift ch p < b := by
  rcases shift_cases p f.2 with ⟨h1, h2⟩ | ⟨_, q, h2, h3, h4⟩ | ⟨_, _, h3⟩
  · have := f.1 p h1; omega
  · omega
  · omega
theorem endS_lt {b : Nat} : ∀ {W : List (List Nat)} {p : Nat}, okLead b W → p < b → endS W p < b
  | [], _, _, h => h
  | ch :: W, p, ok, h => endS_lt (W := W) (fun c hc => ok c (List.mem_cons_of_mem _ hc)) (shift_lt (ok ch List.mem_cons_self) h)
/-! ### rows acted on -/
theorem sw1_map (f : Nat → Nat) {r : List Nat} {p : Nat} (h : p + 1 < r.length) : sw1 (r.map f) p = (sw1 r p).map f := by
  have h0 : p < r.length := by omega
  unfold sw1
  simp [h, h0, List.map_take, List.map_drop]
theorem sw_map (f : Nat → Nat) : ∀ {ch r : List Nat}, (∀ p ∈ ch, p + 1 < r.length) → sw (r.map f) ch = (sw r ch).map f
  | [], _, _ => rfl
  | p :: ch, r, h => by
    have h1 := h p List.mem_cons_self
    rw [sw_cons, sw_cons, sw1_map f h1]
    exact sw_map f fun q hq => by rw [sw1_length h1]; exact h q (List.mem_cons_of_mem _ hq)
theorem leadTo_map (f : Nat → Nat) {b : Nat} : ∀ {W : List (List Nat)} {r : List Nat}, okLead b W → r.length = b → leadTo (r.map f) W = (leadTo r W).map f
  | [], _, _, _ => rfl
  | ch :: W, r, ok, h => by
    have hb : ∀ p ∈ ch, p + 1 < r.length := fun p hp => by rw [h]; exact (ok ch List.mem_cons_self).1 p hp
    show leadTo (sw (r.map f) ch) W = (leadTo (sw r ch) W).map f
    rw [sw_map f hb]
    exact leadTo_map f (fun c hc => ok c (List.mem_cons_of_mem _ hc)) (by rw [sw_length hb, h])
theorem range_getD (r : List Nat) : (List.range r.length).map (fun i => r.getD i 0) = r := by
  apply List.ext_getElem?
  intro i
  rw [List.getElem?_map]
  by_cases h : i < r.length
  · simp [h]
  · rw [List.getElem?_eq_none (by simpa using h), List.getElem?_eq_none (by simpa using h)]; rfl
theorem act_leadTo {b : Nat} {W : List (List Nat)} {r : List Nat} (ok : okLead b W) (h : r.length = b) : leadTo r W = (leadTo (List.range b) W).map fun i => r.getD i 0 := by
  have := leadTo_map (fun i => r.getD i 0) ok (r := List.range b) (by simp)
  rw [← this]
  congr 1
  rw [← h]
  exact (range_getD r).symm
theorem lt_of_row {b : Nat} {r : List Nat} (h : isPerm b r) : ∀ x ∈ r, x < b := by
  intro x hx
  refine Decidable.byContradiction fun hn => ?_
  have hsub : (x :: List.range b).Nodup := List.nodup_cons.mpr ⟨by simpa using hn, List.nodup_range⟩
  have hle := List.Nodup.length_le_of_subset hsub (l₂ := r) (fun y hy => by
    rcases List.mem_cons.mp hy with rfl | hy
    · exact hx
    · exact h.row.2 y (by simpa using hy))
  have := h.row.1
  simp at hle
  omega
/-! ### pairs led, asked behind each step -/
def ledA (ws : List (List (List Nat))) (x : Nat) (rd : List Nat) : Nat → List Nat → List Nat → List (Nat × Nat) → Option (List Nat)
  | 0, _, _, _ => none
  | n + 1, found, head, left =>
    if decide (leftN ws x head left = []) && decide (leadTo head (ws.getD (wayN ws x head left) []) = rd) then some (found ++ [wayN ws x head left])
    else ledA ws x rd n (found ++ [wayN ws x head left]) (leadTo head (ws.getD (wayN ws x head left) [])) (leftN ws x head left)
theorem ledN_A (ws : List (List (List Nat))) (x : Nat) (rd : List Nat) : ∀ (n : Nat) (found head : List Nat) (left : List (Nat × Nat)), endN rd head found left = false → ledN ws x rd (n + 1) found head left = ledA ws x rd n found head left
  | 0, found, head, left, h => by unfold ledN; rw [h]; rfl
  | n + 1, found, head, left, h => by
    unfold ledN ledA
    rw [h]
    simp only [Bool.false_eq_true, if_false]
    have e : endN rd (leadTo head (ws.getD (wayN ws x head left) [])) (found ++ [wayN ws x head left]) (leftN ws x head left) = (decide (leftN ws x head left = []) && decide (leadTo head (ws.getD (wayN ws x head left) []) = rd)) := by simp [endN]
    cases hc : (decide (leftN ws x head left = []) && decide (leadTo head (ws.getD (wayN ws x head left) []) = rd)) with
    | true =>
      rw [hc] at e
      unfold ledN
      rw [e, if_pos rfl, if_pos rfl]
    | false =>
      rw [hc] at e
      rw [ledN_A ws x rd n _ _ _ e]
      rfl
theorem leads_A (t : Tour) (x : Nat) (ps : List (Nat × Nat)) : leads t x ps = ledA t.ways x (List.range t.b) 40 [] (List.range t.b) ps := by
  unfold leads
  exact ledN_A _ _ _ 40 _ _ _ (by simp [endN])
/-- what is led comes round -/
theorem ledN_round {ws : List (List (List Nat))} {x : Nat} {rd : List Nat} : ∀ (n : Nat) (found head : List Nat) (left : List (Nat × Nat)) (f : List Nat), head = endOf rd ws found → ledN ws x rd n found head left = some f → endOf rd ws f = rd ∧ f ≠ []
  | 0, _, _, _, _, _, h => by cases h
  | n + 1, found, head, left, f, he, h => by
    unfold ledN at h
    split at h
    · rename_i hc
      cases h
      simp only [endN, Bool.and_eq_true, decide_eq_true_eq, Bool.not_eq_true', decide_eq_false_iff_not] at hc
      exact ⟨by rw [← he]; exact hc.2.2, hc.2.1⟩
    · exact ledN_round n _ _ _ f (by rw [endOf_snoc, he]) h
theorem told_zip (heads : List (List Nat)) (comp : List Nat) (x : Nat) (h : heads.length = comp.length + 1) :
    (((heads.map fun r => r.idxOf x).drop 1).zip comp).filterMap (fun q => if q.2 = 0 then none else some (q.1, q.2)) = toldN heads comp x := by
  have key : ∀ (comp : List Nat) (hs : List (List Nat)) (k : Nat), hs.length = comp.length → heads.drop (k + 1) = hs → ((hs.map fun r => r.idxOf x).zip comp).filterMap (fun q => if q.2 = 0 then none else some (q.1, q.2)) = (comp.zipIdx k).filterMap fun q => if q.1 = 0 then none else some ((heads.getD (q.2 + 1) []).idxOf x, q.1) := by
    intro comp
    induction comp with
    | nil => intro hs k _ _; simp
    | cons w comp ih =>
      intro hs k hl hd
      cases hs with
      | nil => simp at hl
      | cons r hs =>
        have g : heads[k + 1]? = some r := by
          have : (heads.drop (k + 1))[0]? = some r := by rw [hd]; rfl
          simpa using this
        have hd2 : heads.drop (k + 1 + 1) = hs := by
          have : (heads.drop (k + 1)).drop 1 = hs := by rw [hd]; rfl
          simpa [List.drop_drop] using this
        have := ih hs (k + 1) (by simpa using hl) hd2
        rw [List.zipIdx_cons, List.map_cons, List.zip_cons_cons, List.filterMap_cons, List.filterMap_cons, this]
        have gd : heads.getD (k + 1) [] = r := by simp [List.getD_eq_getElem?_getD, g]
        simp only [gd]
  have := key comp (heads.drop 1) 0 (by simp; omega) rfl
  rw [← List.map_drop]
  exact this
def Tour.me (t : Tour) : D := .tup [nD t.b, tL t.lead, tL t.calls]
end PF
end

/-! ## PfB -/
section
/-! PfB: words by breadth: the least word to each row. -/
set_option linter.all false
set_option autoImplicit false
namespace PF
open PySem
/-! ### words, the shorter first, then by their letters -/
def ltN : List Nat → List Nat → Prop
  | x :: xs, y :: ys => x < y ∨ (x = y ∧ ltN xs ys)
  | _, _ => False
theorem ltN_irrefl : ∀ a : List Nat, ¬ ltN a a
  | [], h => h
  | x :: xs, h => by
    rcases h with h | ⟨_, h⟩
    · omega
    · exact ltN_irrefl xs h
theorem ltN_trans : ∀ {a b c : List Nat}, ltN a b → ltN b c → ltN a c
  | [], _, _, h, _ => h.elim
  | _ :: _, [], _, h, _ => h.elim
  | _ :: _, _ :: _, [], _, h => h.elim
  | x :: xs, y :: ys, z :: zs, h1, h2 => by
    rcases h1 with h1 | ⟨rfl, h1⟩
    · rcases h2 with h2 | ⟨rfl, h2⟩
      · exact .inl (by omega)
      · exact .inl h1
    · rcases h2 with h2 | ⟨rfl, h2⟩
      · exact .inl h2
      · exact .inr ⟨rfl, ltN_trans h1 h2⟩
theorem ltN_append : ∀ {a b : List Nat} (c d : List Nat), ltN a b → ltN (a ++ c) (b ++ d)
  | [], _, _, _, h => h.elim
  | _ :: _, [], _, _, h => h.elim
  | x :: xs, y :: ys, c, d, h => by
    rcases h with h | ⟨rfl, h⟩
    · exact .inl h
    · exact .inr ⟨rfl, ltN_append c d h⟩
theorem ltN_snoc : ∀ (a : List Nat) {i j : Nat}, i < j → ltN (a ++ [i]) (a ++ [j])
  | [], _, _, h => .inl h
  | _ :: xs, _, _, h => .inr ⟨rfl, ltN_snoc xs h⟩
def slLe (a b : List Nat) : Prop := a.length < b.length ∨ (a.length = b.length ∧ (a = b ∨ ltN a b))
theorem slLe_refl (a : List Nat) : slLe a a := .inr ⟨rfl, .inl rfl⟩
theorem slLe_trans {a b c : List Nat} (h1 : slLe a b) (h2 : slLe b c) : slLe a c := by
  rcases h1 with h1 | ⟨l1, h1⟩
  · rcases h2 with h2 | ⟨l2, h2⟩
    · exact .inl (by omega)
    · exact .inl (by omega)
  · rcases h2 with h2 | ⟨l2, h2⟩
    · exact .inl (by omega)
    · refine .inr ⟨by omega, ?_⟩
      rcases h1 with rfl | h1
      · exact h2
      · rcases h2 with rfl | h2
        · exact .inr h1
        · exact .inr (ltN_trans h1 h2)
theorem slLe_snoc {a b : List Nat} (i : Nat) (h : slLe a b) : slLe (a ++ [i]) (b ++ [i]) := by
  rcases h with h | ⟨l, h⟩
  · exact .inl (by simp; omega)
  · refine .inr ⟨by simp; omega, ?_⟩
    rcases h with rfl | h
    · exact .inl rfl
    · exact .inr (ltN_append _ _ h)
theorem slLe_antisymm {a b : List Nat} (h1 : slLe a b) (h2 : slLe b a) : a = b := by
  rcases h1 with h1 | ⟨l1, h1⟩
  · rcases h2 with h2 | ⟨l2, _⟩ <;> omega
  · rcases h1 with h1 | h1
    · exact h1
    · rcases h2 with h2 | ⟨l2, h2⟩
      · omega
      · rcases h2 with h2 | h2
        · exact h2.symm
        · exact (ltN_irrefl a (ltN_trans h1 h2)).elim
theorem slLe_cons {a b : List Nat} (i : Nat) (h : slLe a b) : slLe (i :: a) (i :: b) := by
  rcases h with h | ⟨l, h⟩
  · exact .inl (by simp; omega)
  · refine .inr ⟨by simp; omega, ?_⟩
    rcases h with rfl | h
    · exact .inl rfl
    · exact .inr (.inr ⟨rfl, h⟩)
/-! ### the search -/
abbrev WR := List Nat × List Nat
def scan (T : Option (List Nat)) : List WR → List WR → List WR → List Nat ⊕ (List WR × List WR)
  | [], reg, lat => .inr (reg, lat)
  | q :: cs, reg, lat => if T = some q.2 then .inl q.1 else if q.2 ∈ reg.map (·.2) then scan T cs reg lat else scan T cs (reg ++ [q]) (lat ++ [q])
def cands (ws : List (List (List Nat))) (line : List WR) : List WR := line.flatMap fun q => (List.range ws.length).map fun i => (q.1 ++ [i], leadTo q.2 (ws.getD i []))
def bfs (T : Option (List Nat)) (ws : List (List (List Nat))) : Nat → List WR → List WR → Option (List Nat ⊕ List WR)
  | 0, _, _ => none
  | n + 1, reg, line => if line = [] then some (.inr reg) else match scan T (cands ws line) reg [] with
    | .inl w => some (.inl w)
    | .inr (reg', lat) => bfs T ws n reg' lat
def ltW (p q : WR) : Prop := ltN p.1 q.1
theorem cands_sorted {ws : List (List (List Nat))} : ∀ {line : List WR}, line.Pairwise ltW → (cands ws line).Pairwise ltW
  | [], _ => by simp [cands]
  | q :: line, h => by
    have h1 := List.pairwise_cons.mp h
    show ((List.range ws.length).map (fun i => (q.1 ++ [i], leadTo q.2 (ws.getD i []))) ++ cands ws line).Pairwise ltW
    rw [List.pairwise_append]
    refine ⟨?_, cands_sorted h1.2, fun x hx y hy => ?_⟩
    · rw [List.pairwise_map]
      exact List.pairwise_lt_range.imp fun h => ltN_snoc _ h
    · obtain ⟨i, _, rfl⟩ := List.mem_map.mp hx
      obtain ⟨p, hp, hy⟩ := List.mem_flatMap.mp hy
      obtain ⟨j, _, rfl⟩ := List.mem_map.mp hy
      exact ltN_append _ _ (h1.1 p hp)
theorem scan_miss {T : Option (List Nat)} : ∀ {cs reg lat reg' lat' : List WR}, scan T cs reg lat = .inr (reg', lat') → cs.Pairwise ltW →
    ∃ add : List WR, reg' = reg ++ add ∧ lat' = lat ++ add ∧ add.Sublist cs ∧ (∀ q ∈ cs, T ≠ some q.2) ∧ (∀ q ∈ cs, ∃ p, (p ∈ reg ∨ (p ∈ add ∧ (p.1 = q.1 ∨ ltN p.1 q.1))) ∧ p.2 = q.2) ∧ ((reg.map (·.2)).Nodup → (reg'.map (·.2)).Nodup)
  | [], reg, lat, reg', lat', h, _ => by
    cases h
    exact ⟨[], by simp, by simp, List.Sublist.refl _, by simp, by simp, fun h => h⟩
  | q :: cs, reg, lat, reg', lat', h, hs => by
    have h1 := List.pairwise_cons.mp hs
    unfold scan at h
    split at h
    · cases h
    · rename_i hT
      split at h
      · rename_i hm
        obtain ⟨add, e1, e2, e3, e4, e5, e6⟩ := scan_miss h h1.2
        refine ⟨add, e1, e2, e3.cons _, fun p hp => ?_, fun p hp => ?_, e6⟩
        · rcases List.mem_cons.mp hp with rfl | hp
          · exact hT
          · exact e4 p hp
        · rcases List.mem_cons.mp hp with rfl | hp
          · obtain ⟨r, hr, er⟩ := List.mem_map.mp hm
            exact ⟨r, .inl hr, er⟩
          · exact e5 p hp
      · rename_i hm
        obtain ⟨add, e1, e2, e3, e4, e5, e6⟩ := scan_miss h h1.2
        refine ⟨q :: add, by rw [e1]; simp, by rw [e2]; simp, e3.cons₂ _, fun p hp => ?_, fun p hp => ?_, fun hn => e6 ?_⟩
        · rcases List.mem_cons.mp hp with rfl | hp
          · exact hT
          · exact e4 p hp
        · rcases List.mem_cons.mp hp with rfl | hp
          · exact ⟨p, .inr ⟨List.mem_cons_self, .inl rfl⟩, rfl⟩
          · obtain ⟨r, hr, er⟩ := e5 p hp
            rcases hr with hr | ⟨hr, lr⟩
            · rcases List.mem_append.mp hr with hr | hr
              · exact ⟨r, .inl hr, er⟩
              · rw [List.mem_singleton.mp hr] at er
                exact ⟨q, .inr ⟨List.mem_cons_self, .inr (h1.1 p hp)⟩, er⟩
            · exact ⟨r, .inr ⟨List.mem_cons_of_mem _ hr, lr⟩, er⟩
        · rw [List.map_append, List.nodup_append]
          refine ⟨hn, by simp, fun a ha b hb => ?_⟩
          simp at hb
          subst hb
          exact fun z => hm (z ▸ ha)
theorem scan_hit {T : Option (List Nat)} : ∀ {cs reg lat : List WR} {w : List Nat}, scan T cs reg lat = .inl w → cs.Pairwise ltW → ∃ q ∈ cs, q.1 = w ∧ T = some q.2 ∧ ∀ p ∈ cs, T = some p.2 → p.1 = w ∨ ltN w p.1
  | [], _, _, _, h, _ => by cases h
  | q :: cs, reg, lat, w, h, hs => by
    have h1 := List.pairwise_cons.mp hs
    unfold scan at h
    split at h
    · rename_i hT
      cases h
      refine ⟨q, List.mem_cons_self, rfl, hT, fun p hp _ => ?_⟩
      rcases List.mem_cons.mp hp with rfl | hp
      · exact .inl rfl
      · exact .inr (h1.1 p hp)
    · rename_i hT
      have key : ∀ {reg lat : List WR}, scan T cs reg lat = .inl w → ∃ q' ∈ q :: cs, q'.1 = w ∧ T = some q'.2 ∧ ∀ p ∈ q :: cs, T = some p.2 → p.1 = w ∨ ltN w p.1 := fun h => by
        obtain ⟨r, hr, e1, e2, e3⟩ := scan_hit h h1.2
        refine ⟨r, List.mem_cons_of_mem _ hr, e1, e2, fun p hp hp2 => ?_⟩
        rcases List.mem_cons.mp hp with rfl | hp
        · exact absurd hp2 hT
        · exact e3 p hp hp2
      split at h
      · exact key h
      · exact key h
/-! ### what holds between the levels -/
section
variable (ws : List (List (List Nat))) (s : List Nat)
/-- a word of ways -/
def wordOk (u : List Nat) : Prop := ∀ i ∈ u, i < ws.length
/-- behind n levels; z: the empty word counts -/
structure Lev (T : Option (List Nat)) (z : Bool) (n : Nat) (reg line : List WR) : Prop where
  a : ∀ q ∈ reg, endOf s ws q.1 = q.2 ∧ wordOk ws q.1 ∧ q.1.length ≤ n ∧ (z = false → q.1 ≠ [])
  b : ∀ q : WR, q ∈ line ↔ (q ∈ reg ∧ q.1.length = n) ∨ (n = 0 ∧ q = ([], s))
  c : ∀ u, wordOk ws u → (z = true ∨ u ≠ []) → u.length ≤ n → ∃ q ∈ reg, q.2 = endOf s ws u ∧ slLe q.1 u
  d : line.Pairwise ltW
  e : z = false → ∀ q ∈ reg, T ≠ some q.2
  f : (reg.map (·.2)).Nodup
variable {ws s} {T : Option (List Nat)} {z : Bool} {n : Nat} {reg line : List WR}
theorem endOf_snoc' (r : List Nat) (u : List Nat) (i : Nat) : endOf r ws (u ++ [i]) = leadTo (endOf r ws u) (ws.getD i []) := by simp [endOf]
theorem Lev.len (h : Lev ws s T z n reg line) {q : WR} (hq : q ∈ line) : q.1.length = n ∧ endOf s ws q.1 = q.2 ∧ wordOk ws q.1 := by
  rcases (h.b q).mp hq with ⟨h1, h2⟩ | ⟨h1, rfl⟩
  · exact ⟨h2, (h.a q h1).1, (h.a q h1).2.1⟩
  · exact ⟨by simp [h1], rfl, fun i hi => by cases hi⟩
theorem Lev.cand (h : Lev ws s T z n reg line) {q : WR} (hq : q ∈ cands ws line) : q.1.length = n + 1 ∧ endOf s ws q.1 = q.2 ∧ wordOk ws q.1 := by
  obtain ⟨p, hp, hq⟩ := List.mem_flatMap.mp hq
  obtain ⟨i, hi, rfl⟩ := List.mem_map.mp hq
  obtain ⟨h1, h2, h3⟩ := h.len hp
  refine ⟨by simp [h1], ?_, fun j hj => ?_⟩
  · show endOf s ws (p.1 ++ [i]) = leadTo p.2 (ws.getD i [])
    rw [endOf_snoc', h2]
  · rcases List.mem_append.mp hj with hj | hj
    · exact h3 j hj
    · rw [List.mem_singleton.mp hj]; simpa using hi
/-- a word one longer: met before, or examined next -/
theorem Lev.next (h : Lev ws s T z n reg line) {u : List Nat} (hu : wordOk ws u) (hl : u.length = n + 1) :
    (∃ q ∈ reg, q.2 = endOf s ws u ∧ slLe q.1 u ∧ q.1.length ≤ n) ∨ ∃ q ∈ cands ws line, q.2 = endOf s ws u ∧ slLe q.1 u := by
  rcases List.eq_nil_or_concat u with rfl | ⟨u', i, rfl⟩
  · simp at hl
  rw [List.concat_eq_append] at hu hl ⊢
  have hi : i < ws.length := hu i (by simp)
  have hu' : wordOk ws u' := fun j hj => hu j (by simp [hj])
  have hl' : u'.length = n := by simpa using hl
  have mk : ∀ {v : WR}, v ∈ line → v.2 = endOf s ws u' → slLe v.1 u' → ∃ q ∈ cands ws line, q.2 = endOf s ws (u' ++ [i]) ∧ slLe q.1 (u' ++ [i]) := fun {v} hv e l =>
    ⟨(v.1 ++ [i], leadTo v.2 (ws.getD i [])), List.mem_flatMap.mpr ⟨v, hv, List.mem_map.mpr ⟨i, by simpa using hi, rfl⟩⟩, by rw [endOf_snoc', e], slLe_snoc i l⟩
  by_cases h0 : z = true ∨ u' ≠ []
  · obtain ⟨v, hv, e, l⟩ := h.c u' hu' h0 (by omega)
    by_cases hn : v.1.length = n
    · exact .inr (mk ((h.b v).mpr (.inl ⟨hv, hn⟩)) e l)
    · have ha := h.a v hv
      have ok : wordOk ws (v.1 ++ [i]) := fun j hj => by
        rcases List.mem_append.mp hj with hj | hj
        · exact ha.2.1 j hj
        · rw [List.mem_singleton.mp hj]; exact hi
      obtain ⟨q, hq, e2, l2⟩ := h.c (v.1 ++ [i]) ok (.inr (by simp)) (by have := ha.2.2.1; simp; omega)
      refine .inl ⟨q, hq, ?_, slLe_trans l2 (slLe_snoc i l), (h.a q hq).2.2.1⟩
      rw [e2, endOf_snoc', endOf_snoc', ha.1, e]
  · have hz : u' = [] := Decidable.byContradiction fun z => h0 (.inr z)
    subst hz
    have n0 : n = 0 := by simpa using hl'.symm
    exact .inr (mk ((h.b ([], s)).mpr (.inr ⟨n0, rfl⟩)) rfl (slLe_refl _))
theorem Lev.step (h : Lev ws s T z n reg line) (hz : z = true → T = none) {reg' lat : List WR} (e : scan T (cands ws line) reg [] = .inr (reg', lat)) : Lev ws s T z (n + 1) reg' lat := by
  obtain ⟨add, rfl, e2, e3, e4, e5, e6⟩ := scan_miss e (cands_sorted h.d)
  rw [List.nil_append] at e2
  subst e2
  have hadd : ∀ q ∈ lat, q.1.length = n + 1 ∧ endOf s ws q.1 = q.2 ∧ wordOk ws q.1 := fun q hq => h.cand (e3.subset hq)
  refine ⟨fun q hq => ?_, fun q => ⟨fun hq => .inl ⟨List.mem_append.mpr (.inr hq), (hadd q hq).1⟩, fun hq => ?_⟩, fun u hu hu0 hl => ?_, (cands_sorted h.d).sublist e3, fun z0 q hq => ?_, e6 h.f⟩
  · rcases List.mem_append.mp hq with hq | hq
    · obtain ⟨h1, h2, h3, h4⟩ := h.a q hq
      exact ⟨h1, h2, by omega, h4⟩
    · obtain ⟨h1, h2, h3⟩ := hadd q hq
      exact ⟨h2, h3, by omega, fun _ z => by rw [z] at h1; simp at h1⟩
  · rcases hq with ⟨hq, l⟩ | ⟨z, _⟩
    · rcases List.mem_append.mp hq with hq | hq
      · have := (h.a q hq).2.2.1; omega
      · exact hq
    · omega
  · by_cases hn : u.length ≤ n
    · obtain ⟨q, hq, e, l⟩ := h.c u hu hu0 hn
      exact ⟨q, List.mem_append.mpr (.inl hq), e, l⟩
    · rcases h.next hu (by omega) with ⟨q, hq, e, l, _⟩ | ⟨q, hq, e, l⟩
      · exact ⟨q, List.mem_append.mpr (.inl hq), e, l⟩
      · obtain ⟨p, hp, ep⟩ := e5 q hq
        have hc := h.cand hq
        rcases hp with hp | ⟨hp, lp⟩
        · refine ⟨p, List.mem_append.mpr (.inl hp), ep.trans e, slLe_trans (.inl ?_) l⟩
          have := (h.a p hp).2.2.1
          omega
        · exact ⟨p, List.mem_append.mpr (.inr hp), ep.trans e, slLe_trans (.inr ⟨by rw [(hadd p hp).1, hc.1], lp⟩) l⟩
  · rcases List.mem_append.mp hq with hq | hq
    · exact h.e z0 q hq
    · exact e4 q (e3.subset hq)
/-- what is hit is the least -/
theorem Lev.hit (h : Lev ws s T false n reg line) {w : List Nat} (e : scan T (cands ws line) reg [] = .inl w) : T = some (endOf s ws w) ∧ wordOk ws w ∧ w ≠ [] ∧ ∀ u, wordOk ws u → u ≠ [] → T = some (endOf s ws u) → slLe w u := by
  obtain ⟨q, hq, rfl, hT, hmin⟩ := scan_hit e (cands_sorted h.d)
  obtain ⟨h1, h2, h3⟩ := h.cand hq
  refine ⟨by rw [h2]; exact hT, h3, fun z => by rw [z] at h1; simp at h1, fun u hu hu0 hTu => ?_⟩
  by_cases l1 : u.length ≤ n
  · obtain ⟨p, hp, e, _⟩ := h.c u hu (.inr hu0) l1
    exact absurd (by rw [e]; exact hTu) (h.e rfl p hp)
  · by_cases l2 : u.length = n + 1
    · rcases h.next hu l2 with ⟨p, hp, e, _, _⟩ | ⟨p, hp, e, l⟩
      · exact absurd (by rw [e]; exact hTu) (h.e rfl p hp)
      · refine slLe_trans (.inr ⟨by rw [h1, (h.cand hp).1], ?_⟩) l
        rcases hmin p hp (by rw [e]; exact hTu) with z | z
        · exact .inl z.symm
        · exact .inr z
    · exact .inl (by omega)
/-- when nothing is left, all is met -/
theorem Lev.all (h : Lev ws s T z n reg []) : ∀ (k : Nat) (u : List Nat), u.length = k → wordOk ws u → (z = true ∨ u ≠ []) → ∃ q ∈ reg, q.2 = endOf s ws u ∧ slLe q.1 u := by
  have n0 : n ≠ 0 := fun z0 => by
    have := (h.b ([], s)).mpr (.inr ⟨z0, rfl⟩)
    cases this
  intro k
  induction k with
  | zero => exact fun u hl hu h0 => h.c u hu h0 (by omega)
  | succ k ih =>
    intro u hl hu h0
    by_cases hn : u.length ≤ n
    · exact h.c u hu h0 hn
    · rcases List.eq_nil_or_concat u with rfl | ⟨u', i, rfl⟩
      · simp at hl
      rw [List.concat_eq_append] at hu hl hn h0 ⊢
      have hi : i < ws.length := hu i (by simp)
      have hl' : u'.length = k := by simpa using hl
      have hnk : n ≤ k := by simp at hn; omega
      obtain ⟨v, hv, e, l⟩ := ih u' hl' (fun j hj => hu j (by simp [hj])) (.inr fun z => by rw [z] at hl'; simp at hl'; omega)
      have ha := h.a v hv
      have hv2 : v.1.length ≠ n := fun z => by
        have := (h.b v).mpr (.inl ⟨hv, z⟩)
        cases this
      have ok : wordOk ws (v.1 ++ [i]) := fun j hj => by
        rcases List.mem_append.mp hj with hj | hj
        · exact ha.2.1 j hj
        · rw [List.mem_singleton.mp hj]; exact hi
      obtain ⟨q, hq, e2, l2⟩ := h.c (v.1 ++ [i]) ok (.inr (by simp)) (by have := ha.2.2.1; simp; omega)
      refine ⟨q, hq, ?_, slLe_trans l2 (slLe_snoc i l)⟩
      rw [e2, endOf_snoc', endOf_snoc', ha.1, e]
theorem Lev.start (T : Option (List Nat)) : Lev ws s T false 0 [] [([], s)] where
  a := fun q hq => by cases hq
  b := fun q => by simp
  c := fun u _ h hl => by
    rcases h with h | h
    · cases h
    · exact absurd (List.length_eq_zero_iff.mp (Nat.le_zero.mp hl)) h
  d := by simp
  e := fun _ q hq => by cases hq
  f := by simp
theorem Lev.startR (T : Option (List Nat)) : Lev ws s T true 0 [([], s)] [([], s)] where
  a := fun q hq => by
    rw [List.mem_singleton.mp hq]
    exact ⟨rfl, (fun i hi => by cases hi), by simp, fun z => by cases z⟩
  b := fun q => by
    constructor
    · intro hq
      rw [List.mem_singleton.mp hq]
      exact .inr ⟨rfl, rfl⟩
    · rintro (⟨hq, _⟩ | ⟨_, rfl⟩)
      · exact hq
      · simp
  c := fun u _ _ hl => by
    have : u = [] := List.length_eq_zero_iff.mp (Nat.le_zero.mp hl)
    subst this
    exact ⟨_, List.mem_singleton.mpr rfl, rfl, slLe_refl _⟩
  d := by simp
  e := fun z => by cases z
  f := by simp
end
end PF
end

/-! ## PfG -/
section
/-! PfG: rows are a group: words that lead home; the permutations. -/
set_option linter.all false
set_option autoImplicit false
namespace PF
open PySem
/-! ### all permutations -/
def insAll (x : Nat) : List Nat → List (List Nat)
  | [] => [[x]]
  | y :: ys => (x :: y :: ys) :: (insAll x ys).map (y :: ·)
def permsL : List Nat → List (List Nat)
  | [] => [[]]
  | x :: xs => (permsL xs).flatMap (insAll x)
theorem mem_insAll (x : Nat) : ∀ (a b : List Nat), a ++ x :: b ∈ insAll x (a ++ b)
  | [], [] => by simp [insAll]
  | [], y :: b => by simp [insAll]
  | y :: a, b => by
    show y :: (a ++ x :: b) ∈ (x :: y :: (a ++ b)) :: (insAll x (a ++ b)).map (y :: ·)
    exact List.mem_cons_of_mem _ (List.mem_map.mpr ⟨_, mem_insAll x a b, rfl⟩)
theorem mem_permsL : ∀ {xs l : List Nat}, l.Perm xs → l ∈ permsL xs
  | [], l, h => by
    rw [List.perm_nil.mp h]
    simp [permsL]
  | x :: xs, l, h => by
    have hx : x ∈ l := h.mem_iff.mpr List.mem_cons_self
    obtain ⟨a, b, rfl⟩ := List.append_of_mem hx
    have h2 : (a ++ b).Perm xs := (List.perm_cons x).mp ((List.perm_middle.symm).trans h)
    exact List.mem_flatMap.mpr ⟨a ++ b, mem_permsL h2, mem_insAll x a b⟩
theorem isPerm.perm {b : Nat} {r : List Nat} (h : isPerm b r) : r.Perm (List.range b) :=
  (List.perm_ext_iff_of_nodup h.nd List.nodup_range).mpr fun a => ⟨fun ha => by simpa using lt_of_row h a ha, fun ha => h.row.2 a (by simpa using ha)⟩
theorem isPerm.mem {b : Nat} {r : List Nat} (h : isPerm b r) : r ∈ permsL (List.range b) := mem_permsL h.perm
/-! ### words act -/
section
variable {b : Nat} {ws : List (List (List Nat))}
/-- every way is one of rows of b -/
def waysOk (b : Nat) (ws : List (List (List Nat))) : Prop := ∀ i, i < ws.length → okLead b (ws.getD i [])
theorem endOf_perm (h : waysOk b ws) : ∀ {u : List Nat} {r : List Nat}, wordOk ws u → isPerm b r → isPerm b (endOf r ws u)
  | [], _, _, hr => hr
  | i :: u, r, hu, hr => endOf_perm h (u := u) (fun j hj => hu j (List.mem_cons_of_mem _ hj)) (isPerm_leadTo (h i (hu i List.mem_cons_self)) hr)
theorem endOf_map (h : waysOk b ws) (f : Nat → Nat) : ∀ {u : List Nat} {r : List Nat}, wordOk ws u → r.length = b → endOf (r.map f) ws u = (endOf r ws u).map f
  | [], _, _, _ => rfl
  | i :: u, r, hu, hr => by
    have hi := h i (hu i List.mem_cons_self)
    show endOf (leadTo (r.map f) (ws.getD i [])) ws u = (endOf (leadTo r (ws.getD i [])) ws u).map f
    rw [leadTo_map f hi hr]
    exact endOf_map h f (u := u) (fun j hj => hu j (List.mem_cons_of_mem _ hj)) (leadTo_length hi hr)
theorem endOf_act (h : waysOk b ws) {u : List Nat} {r : List Nat} (hu : wordOk ws u) (hr : r.length = b) : endOf r ws u = (endOf (List.range b) ws u).map fun i => r.getD i 0 := by
  rw [← endOf_map h (fun i => r.getD i 0) hu (by simp)]
  congr 1
  rw [← hr]
  exact (range_getD r).symm
theorem endOf_append (r u v : List Nat) : endOf r ws (u ++ v) = endOf (endOf r ws u) ws v := by simp [endOf]
/-- the row that undoes a row -/
def invP (b : Nat) (r : List Nat) : List Nat := (List.range b).map fun x => r.idxOf x
theorem home_iff (h : waysOk b ws) {u r : List Nat} (hu : wordOk ws u) (hr : isPerm b r) : endOf r ws u = List.range b ↔ endOf (List.range b) ws u = invP b r := by
  rw [endOf_act h hu hr.row.1]
  have hp := endOf_perm h hu (isPerm_rounds b)
  generalize endOf (List.range b) ws u = p at hp
  constructor
  · intro e
    apply List.ext_getElem?
    intro j
    by_cases hj : j < b
    · have e2 : (p.map fun i => r.getD i 0)[j]? = some j := by rw [e]; simp [hj]
      rw [List.getElem?_map] at e2
      have hjp : j < p.length := by rw [hp.row.1]; exact hj
      have g : p[j]? = some p[j] := List.getElem?_eq_getElem hjp
      rw [g] at e2
      simp only [Option.map_some, Option.some.injEq] at e2
      have hlt : p[j] < r.length := by rw [hr.row.1]; exact lt_of_row hp _ (List.getElem_mem _)
      have g2 : r[p[j]]? = some j := by
        rw [List.getElem?_eq_getElem hlt]
        rw [List.getD_eq_getElem?_getD, List.getElem?_eq_getElem hlt] at e2
        exact congrArg some e2
      rw [g, ← idx_of_get hr.nd g2]
      simp [invP, hj]
    · rw [List.getElem?_eq_none (by rw [hp.row.1]; omega), List.getElem?_eq_none (by simp [invP]; omega)]
  · intro e
    rw [e]
    unfold invP
    rw [List.map_map]
    have : ∀ x ∈ List.range b, ((fun i => r.getD i 0) ∘ fun x => r.idxOf x) x = x := by
      intro x hx
      have := idx_get (hr.row.2 x (by simpa using hx))
      show r.getD (r.idxOf x) 0 = x
      rw [List.getD_eq_getElem?_getD, this]
      rfl
    rw [List.map_congr_left this, List.map_id']
theorem dup_of {α : Type} [DecidableEq α] {l : List α} (h : ¬ l.Nodup) : ∃ i j, i < j ∧ ∃ (hj : j < l.length) (hi : i < l.length), l[i] = l[j] := by
  refine Classical.byContradiction fun hn => h ?_
  refine List.pairwise_iff_getElem.mpr fun i j hi hj hij e => hn ⟨i, j, hij, hj, hi, e⟩
/-- a word, so often -/
def rep (u : List Nat) : Nat → List Nat
  | 0 => []
  | n + 1 => rep u n ++ u
theorem rep_ok {u : List Nat} (hu : wordOk ws u) : ∀ n, wordOk ws (rep u n)
  | 0 => fun i hi => by cases hi
  | n + 1 => fun i hi => by
    rcases List.mem_append.mp hi with hi | hi
    · exact rep_ok hu n i hi
    · exact hu i hi
theorem rep_add (u : List Nat) (m : Nat) : ∀ n, rep u (m + n) = rep u m ++ rep u n
  | 0 => by simp [rep]
  | n + 1 => by
    show rep u (m + n) ++ u = rep u m ++ (rep u n ++ u)
    rw [rep_add u m n, List.append_assoc]
theorem rep_succ' (u : List Nat) (n : Nat) : rep u (n + 1) = u ++ rep u n := by
  have := rep_add u 1 n
  rw [Nat.add_comm 1 n] at this
  rw [this]
  simp [rep]
/-- every word may be led home -/
theorem home_ex (h : waysOk b ws) {u : List Nat} (hu : wordOk ws u) : ∃ v, wordOk ws v ∧ endOf (endOf (List.range b) ws u) ws v = List.range b := by
  have hM : ¬ ((List.range ((permsL (List.range b)).length + 1)).map fun k => endOf (List.range b) ws (rep u k)).Nodup := fun hn => by
    have hle := List.Nodup.length_le_of_subset hn (l₂ := permsL (List.range b)) fun r hr => by
      obtain ⟨k, _, rfl⟩ := List.mem_map.mp hr
      exact (endOf_perm h (rep_ok hu k) (isPerm_rounds b)).mem
    simp at hle
    omega
  obtain ⟨i, j, hij, hj, hi, e⟩ := dup_of hM
  simp only [List.getElem_map, List.getElem_range] at e
  obtain ⟨d, rfl⟩ : ∃ d, j = d + 1 + i := ⟨j - i - 1, by omega⟩
  rw [rep_add, endOf_append] at e
  have hp := endOf_perm h (rep_ok hu (d + 1)) (isPerm_rounds b)
  have hq := endOf_perm h (rep_ok hu i) (isPerm_rounds b)
  rw [endOf_act h (r := endOf (List.range b) ws (rep u (d + 1))) (rep_ok hu i) hp.row.1] at e
  have hid : endOf (List.range b) ws (rep u (d + 1)) = List.range b := by
    generalize endOf (List.range b) ws (rep u (d + 1)) = p at hp e
    generalize endOf (List.range b) ws (rep u i) = q at hq e
    have key : ∀ x ∈ q, p.getD x 0 = x := by
      intro x hx
      obtain ⟨k, hk, rfl⟩ := List.getElem_of_mem hx
      have := congrArg (fun l => l[k]?) e
      simp only [List.getElem?_map, List.getElem?_eq_getElem hk, Option.map_some, Option.some.injEq] at this
      exact this.symm
    rw [← range_getD p, hp.row.1]
    have : ∀ x ∈ List.range b, p.getD x 0 = x := fun x hx => key x (hq.row.2 x (by simpa using hx))
    rw [List.map_congr_left this, List.map_id']
  refine ⟨rep u d, rep_ok hu d, ?_⟩
  rw [← endOf_append, ← rep_succ']
  exact hid
theorem Lev.perm {s : List Nat} {T : Option (List Nat)} {z : Bool} {n : Nat} {reg line : List WR} (hw : waysOk b ws) (hs : isPerm b s) (h : Lev ws s T z n reg line) : ∀ q ∈ reg, isPerm b q.2 := fun q hq => by
  have := h.a q hq
  rw [← this.1]
  exact endOf_perm hw this.2.1 hs
theorem Lev.bound {s : List Nat} {T : Option (List Nat)} {z : Bool} {n : Nat} {reg line : List WR} (hw : waysOk b ws) (hs : isPerm b s) (h : Lev ws s T z n reg line) : reg.length ≤ (permsL (List.range b)).length := by
  have := List.Nodup.length_le_of_subset h.f (l₂ := permsL (List.range b)) fun r hr => by
    obtain ⟨q, hq, rfl⟩ := List.mem_map.mp hr
    exact (h.perm hw hs q hq).mem
  simpa using this
theorem bfs_end {s : List Nat} {T : Option (List Nat)} {z : Bool} (hw : waysOk b ws) (hs : isPerm b s) (hz : z = true → T = none) : ∀ (fuel n : Nat) (reg line : List WR), Lev ws s T z n reg line → (permsL (List.range b)).length + 2 ≤ fuel + reg.length → ∃ x, bfs T ws fuel reg line = some x
  | 0, n, reg, line, h, hf => by
    have := h.bound hw hs
    omega
  | fuel + 1, n, reg, line, h, hf => by
    unfold bfs
    split
    · exact ⟨_, rfl⟩
    · cases e : scan T (cands ws line) reg [] with
      | inl w => exact ⟨_, rfl⟩
      | inr p =>
        obtain ⟨reg', lat⟩ := p
        have h' := h.step hz e
        obtain ⟨add, rfl, e2, _⟩ := scan_miss e (cands_sorted h.d)
        rw [List.nil_append] at e2
        subst e2
        have hb := h.bound hw hs
        cases lat with
        | nil =>
          obtain ⟨m, rfl⟩ : ∃ m, fuel = m + 1 := ⟨fuel - 1, by omega⟩
          exact ⟨.inr (reg ++ []), rfl⟩
        | cons q lat => exact bfs_end hw hs hz fuel (n + 1) _ _ h' (by simp; omega)
theorem bfs_all {s : List Nat} {T : Option (List Nat)} {z : Bool} (hz : z = true → T = none) : ∀ (fuel n : Nat) (reg line R : List WR), Lev ws s T z n reg line → bfs T ws fuel reg line = some (.inr R) → ∃ m, m ≤ n + fuel ∧ Lev ws s T z m R []
  | 0, _, _, _, _, _, e => by cases e
  | fuel + 1, n, reg, line, R, h, e => by
    unfold bfs at e
    split at e
    · rename_i hl
      cases e
      subst hl
      exact ⟨n, by omega, h⟩
    · cases e2 : scan T (cands ws line) reg [] with
      | inl w => rw [e2] at e; cases e
      | inr p =>
        obtain ⟨reg', lat⟩ := p
        rw [e2] at e
        obtain ⟨m, hm, l⟩ := bfs_all hz fuel (n + 1) reg' lat R (h.step hz e2) e
        exact ⟨m, by omega, l⟩
theorem bfs_hit {s : List Nat} {T : Option (List Nat)} : ∀ (fuel n : Nat) (reg line : List WR) (w : List Nat), Lev ws s T false n reg line → bfs T ws fuel reg line = some (.inl w) → T = some (endOf s ws w) ∧ wordOk ws w ∧ w ≠ [] ∧ ∀ u, wordOk ws u → u ≠ [] → T = some (endOf s ws u) → slLe w u
  | 0, _, _, _, _, _, e => by cases e
  | fuel + 1, n, reg, line, w, h, e => by
    unfold bfs at e
    split at e
    · cases e
    · cases e2 : scan T (cands ws line) reg [] with
      | inl w' =>
        rw [e2] at e
        cases e
        exact h.hit e2
      | inr p =>
        obtain ⟨reg', lat⟩ := p
        rw [e2] at e
        exact bfs_hit fuel (n + 1) reg' lat w (h.step (fun z => by cases z) e2) e
/-! ### the least home -/
/-- w leads home from s, and is the least -/
structure Home (b : Nat) (ws : List (List (List Nat))) (s w : List Nat) : Prop where
  e : endOf s ws w = List.range b
  ok : wordOk ws w
  ne : w ≠ []
  le : ∀ u, wordOk ws u → u ≠ [] → endOf s ws u = List.range b → slLe w u
theorem home_bfs (hw : waysOk b ws) (hk : 0 < ws.length) {u0 : List Nat} (hu0 : wordOk ws u0) (fuel : Nat) (hf : (permsL (List.range b)).length + 2 ≤ fuel) : ∃ w, bfs (some (List.range b)) ws fuel [] [([], endOf (List.range b) ws u0)] = some (.inl w) ∧ Home b ws (endOf (List.range b) ws u0) w := by
  have hs := endOf_perm hw hu0 (isPerm_rounds b)
  obtain ⟨x, hx⟩ := bfs_end hw hs (T := some (List.range b)) (z := false) (fun z => by cases z) fuel 0 [] [([], endOf (List.range b) ws u0)] (Lev.start _) (by simpa using hf)
  cases x with
  | inl w =>
    obtain ⟨h1, h2, h3, h4⟩ := bfs_hit fuel 0 _ _ w (Lev.start _) hx
    exact ⟨w, hx, (Option.some.inj h1).symm, h2, h3, fun u hu hne e => h4 u hu hne (by rw [e])⟩
  | inr R =>
    exfalso
    obtain ⟨m, _, hm⟩ := bfs_all (fun z => by cases z) fuel 0 _ _ R (Lev.start _) hx
    have o0 : wordOk ws [0] := fun i hi => by rw [List.mem_singleton.mp hi]; exact hk
    have ok2 : wordOk ws (u0 ++ [0]) := fun i hi => by
      rcases List.mem_append.mp hi with hi | hi
      · exact hu0 i hi
      · exact o0 i hi
    obtain ⟨v, hv, e⟩ := home_ex hw ok2
    rw [endOf_append, ← endOf_append _ [0] v] at e
    have okv : wordOk ws ([0] ++ v) := fun i hi => by
      rcases List.mem_append.mp hi with hi | hi
      · exact o0 i hi
      · exact hv i hi
    obtain ⟨q, hq, e2, _⟩ := hm.all _ ([0] ++ v) rfl okv (.inr (by simp))
    exact hm.e rfl q hq (by rw [e2, e])
def intW (c : List Nat) : Int × List Int := ((c.length : Int), c.map fun i : Nat => (i : Int))
theorem lexLe_ltN : ∀ {a c : List Nat}, ltN a c → lexLe (a.map fun i : Nat => (i : Int)) (c.map fun i : Nat => (i : Int)) = true
  | [], _, h => h.elim
  | _ :: _, [], h => h.elim
  | x :: a, y :: c, h => by
    rw [List.map_cons, List.map_cons]
    unfold lexLe
    rcases h with h | ⟨rfl, h⟩
    · rw [if_neg (by omega)]
      simp only [decide_eq_true_eq]
      omega
    · rw [if_pos rfl]
      exact lexLe_ltN h
theorem lexLe_refl : ∀ a : List Int, lexLe a a = true := fun a => (lexLe_total a a).elim id id
theorem pairLe_sl {a c : List Nat} (h : slLe a c) : pairLe (intW a) (intW c) = true := by
  unfold pairLe intW
  rcases h with h | ⟨l, h⟩
  · rw [if_neg (show ¬ ((a.length : Int)) = (c.length : Int) by omega)]
    simp only [decide_eq_true_eq]
    omega
  · rw [if_pos (show ((a.length : Int)) = (c.length : Int) by omega)]
    rcases h with rfl | h
    · exact lexLe_refl _
    · exact lexLe_ltN h
theorem isort_head {l : List (Int × List Int)} {m : Int × List Int} (hm : m ∈ l) (h : ∀ y ∈ l, pairLe m y = true) : (isort pairLe l)[0]? = some m := by
  have hp := isort_perm (le := pairLe) l
  have hs := isort_sorted (le := pairLe) pairLe_total pairLe_trans l
  cases e : isort pairLe l with
  | nil =>
    rw [e] at hp
    have := hp.symm.subset hm
    cases this
  | cons x r =>
    rw [e] at hp hs
    have hx : x ∈ l := hp.subset List.mem_cons_self
    have hm2 := hp.symm.subset hm
    rcases List.mem_cons.mp hm2 with rfl | hm2
    · rfl
    · have h1 := (List.pairwise_cons.mp hs).1 m hm2
      rw [pairLe_antisymm x m h1 (h x hx)]
      rfl
/-- the least home, first way by first way -/
theorem home_first (hw : waysOk b ws) {u0 : List Nat} (hu0 : wordOk ws u0) {R : List WR} {m : Nat} (hR : Lev ws (List.range b) none true m R []) {w : List Nat} (h : Home b ws (endOf (List.range b) ws u0) w) :
    ∃ f : Nat → List Nat, (∀ i, i < ws.length → (f i, invP b (leadTo (endOf (List.range b) ws u0) (ws.getD i []))) ∈ R) ∧ (isort pairLe (((List.range ws.length).map fun i => i :: f i).map intW))[0]? = some (intW w) := by
  have hs := endOf_perm hw hu0 (isPerm_rounds b)
  have thereP : ∀ i, i < ws.length → isPerm b (leadTo (endOf (List.range b) ws u0) (ws.getD i [])) := fun i hi => isPerm_leadTo (hw i hi) hs
  have uniq : ∀ q ∈ R, ∀ p ∈ R, q.2 = p.2 → q = p := fun q hq p hp e => by
    have : ∀ {l : List WR}, (l.map (·.2)).Nodup → ∀ q ∈ l, ∀ p ∈ l, q.2 = p.2 → q = p := by
      intro l
      induction l with
      | nil => intro _ q hq; cases hq
      | cons z l ih =>
        intro n q hq p hp e
        rw [List.map_cons, List.nodup_cons] at n
        rcases List.mem_cons.mp hq with hq1 | hq1
        · rcases List.mem_cons.mp hp with hp1 | hp1
          · rw [hq1, hp1]
          · exact (n.1 (List.mem_map.mpr ⟨p, hp1, by rw [← e, hq1]⟩)).elim
        · rcases List.mem_cons.mp hp with hp1 | hp1
          · exact (n.1 (List.mem_map.mpr ⟨q, hq1, by rw [e, hp1]⟩)).elim
          · exact ih n.2 q hq1 p hp1 e
    exact this hR.f q hq p hp e
  have ex : ∀ i, i < ws.length → ∃ v, (v, invP b (leadTo (endOf (List.range b) ws u0) (ws.getD i []))) ∈ R := fun i hi => by
    have ok2 : wordOk ws (u0 ++ [i]) := fun j hj => by
      rcases List.mem_append.mp hj with hj | hj
      · exact hu0 j hj
      · rw [List.mem_singleton.mp hj]; exact hi
    obtain ⟨v, hv, e⟩ := home_ex hw ok2
    rw [endOf_append] at e
    have e2 := (home_iff hw hv (thereP i hi)).mp e
    obtain ⟨q, hq, e3, _⟩ := hR.all _ v rfl hv (.inl rfl)
    refine ⟨q.1, ?_⟩
    have : q = (q.1, invP b (leadTo (endOf (List.range b) ws u0) (ws.getD i []))) := Prod.ext rfl (e3.trans e2)
    rw [← this]
    exact hq
  obtain ⟨f, hfR⟩ : ∃ f : Nat → List Nat, ∀ i, i < ws.length → (f i, invP b (leadTo (endOf (List.range b) ws u0) (ws.getD i []))) ∈ R := ⟨fun i => if hi : i < ws.length then Classical.choose (ex i hi) else [], fun i hi => by
    simp only [dif_pos hi]
    exact Classical.choose_spec (ex i hi)⟩
  refine ⟨f, hfR, ?_⟩
  have goal2 : (isort pairLe (((List.range ws.length).map fun i => i :: f i).map intW))[0]? = some (intW w) := by
    have homeC : ∀ i, i < ws.length → wordOk ws (i :: f i) ∧ endOf (endOf (List.range b) ws u0) ws (i :: f i) = List.range b := fun i hi => by
      have ha := hR.a _ (hfR i hi)
      refine ⟨fun j hj => ?_, ?_⟩
      · rcases List.mem_cons.mp hj with rfl | hj
        · exact hi
        · exact ha.2.1 j hj
      · exact (home_iff hw ha.2.1 (thereP i hi)).mpr ha.1
    obtain ⟨i0, w', rfl⟩ : ∃ i0 w', w = i0 :: w' := by
      cases hh : w with
      | nil => exact absurd hh h.ne
      | cons i0 w' => exact ⟨i0, w', rfl⟩
    have hi0 : i0 < ws.length := h.ok i0 List.mem_cons_self
    have ok' : wordOk ws w' := fun j hj => h.ok j (List.mem_cons_of_mem _ hj)
    have e1 := (home_iff hw ok' (thereP i0 hi0)).mp h.e
    obtain ⟨q, hq, e2, l⟩ := hR.all _ w' rfl ok' (.inl rfl)
    have eq : q = (f i0, invP b (leadTo (endOf (List.range b) ws u0) (ws.getD i0 []))) := uniq q hq _ (hfR i0 hi0) (e2.trans e1)
    rw [eq] at l
    have c0 := homeC i0 hi0
    have ew : i0 :: w' = i0 :: f i0 := slLe_antisymm (h.le _ c0.1 (by simp) c0.2) (slLe_cons i0 l)
    rw [ew]
    refine isort_head (List.mem_map.mpr ⟨_, List.mem_map.mpr ⟨i0, by simpa using hi0, rfl⟩, rfl⟩) fun y hy => ?_
    obtain ⟨c, hc, rfl⟩ := List.mem_map.mp hy
    obtain ⟨i, hi, rfl⟩ := List.mem_map.mp hc
    have hi' : i < ws.length := by simpa using hi
    have ci := homeC i hi'
    rw [← ew]
    exact pairLe_sl (h.le _ ci.1 (by simp) ci.2)
  exact goal2
end
end PF
end

/-! ## PfH -/
section
/-! PfH: rows as keys of dicts; sorted rows; groups of rows. -/
set_option linter.all false
set_option autoImplicit false
namespace PF
open PySem
/-! ### lists -/
theorem nodup_map_on {α β : Type} {f : α → β} : ∀ {l : List α}, (∀ x ∈ l, ∀ y ∈ l, f x = f y → x = y) → l.Nodup → (l.map f).Nodup
  | [], _, _ => by simp
  | x :: l, h, n => by
    have h1 := List.nodup_cons.mp n
    rw [List.map_cons, List.nodup_cons]
    refine ⟨fun hm => ?_, nodup_map_on (fun y hy z hz => h y (List.mem_cons_of_mem _ hy) z (List.mem_cons_of_mem _ hz)) h1.2⟩
    obtain ⟨y, hy, e⟩ := List.mem_map.mp hm
    have := h x List.mem_cons_self y (List.mem_cons_of_mem _ hy) e.symm
    subst this
    exact h1.1 hy
theorem inj_of_nodup {α β : Type} {f : α → β} : ∀ {l : List α}, (l.map f).Nodup → ∀ x ∈ l, ∀ y ∈ l, f x = f y → x = y
  | [], _, x, hx, _, _, _ => by cases hx
  | z :: l, n, x, hx, y, hy, e => by
    rw [List.map_cons, List.nodup_cons] at n
    rcases List.mem_cons.mp hx with hx1 | hx1
    · rcases List.mem_cons.mp hy with hy1 | hy1
      · rw [hx1, hy1]
      · exact (n.1 (List.mem_map.mpr ⟨y, hy1, by rw [← e, hx1]⟩)).elim
    · rcases List.mem_cons.mp hy with hy1 | hy1
      · exact (n.1 (List.mem_map.mpr ⟨x, hx1, by rw [e, hy1]⟩)).elim
      · exact inj_of_nodup n.2 x hx1 y hy1 e
theorem nodup_unmap {α β : Type} {f : α → β} : ∀ {l : List α}, (l.map f).Nodup → l.Nodup
  | [], _ => by simp
  | x :: l, h => by
    rw [List.map_cons, List.nodup_cons] at h
    exact List.nodup_cons.mpr ⟨fun hm => h.1 (List.mem_map.mpr ⟨x, hm, rfl⟩), nodup_unmap h.2⟩
theorem filter_le1 {α : Type} {f : α → Option Int} (c : Option Int) : ∀ {l : List α}, (l.map f).Nodup → (l.filter fun q => f q == c).length ≤ 1
  | [], _ => by simp
  | x :: l, n => by
    rw [List.map_cons, List.nodup_cons] at n
    by_cases h : f x = c
    · have : l.filter (fun q => f q == c) = [] := List.filter_eq_nil_iff.mpr fun y hy e => n.1 (List.mem_map.mpr ⟨y, hy, by rw [h]; exact eq_of_beq e⟩)
      rw [List.filter_cons_of_pos (by simpa using h), this]
      simp
    · rw [List.filter_cons_of_neg (by simpa using h)]
      exact filter_le1 c n.2
theorem filter_mem2 {p : Nat → Bool} : ∀ {l : List Nat}, (l.filter p).Nodup → (l.filter fun x => !p x).Nodup → l.Nodup
  | [], _, _ => by simp
  | x :: l, h1, h2 => by
    cases e : p x with
    | true =>
      rw [List.filter_cons_of_pos (by simpa using e), List.nodup_cons] at h1
      rw [List.filter_cons_of_neg (by simp [e])] at h2
      exact List.nodup_cons.mpr ⟨fun hm => h1.1 (List.mem_filter.mpr ⟨hm, e⟩), filter_mem2 h1.2 h2⟩
    | false =>
      rw [List.filter_cons_of_neg (by simp [e])] at h1
      rw [List.filter_cons_of_pos (by simp [e]), List.nodup_cons] at h2
      exact List.nodup_cons.mpr ⟨fun hm => h2.1 (List.mem_filter.mpr ⟨hm, by simp [e]⟩), filter_mem2 h1 h2.2⟩
/-- no two alike, looked at by the last bits -/
def nodupB : Nat → List Nat → Bool
  | 0, l => decide l.Nodup
  | n + 1, l => nodupB n ((l.filter fun x => x % 2 == 0).map (· / 2)) && nodupB n ((l.filter fun x => !(x % 2 == 0)).map (· / 2))
theorem nodupB_ok : ∀ {n : Nat} {l : List Nat}, nodupB n l = true → l.Nodup
  | 0, l, h => of_decide_eq_true h
  | n + 1, l, h => by
    simp only [nodupB, Bool.and_eq_true] at h
    exact filter_mem2 (nodup_unmap (nodupB_ok h.1)) (nodup_unmap (nodupB_ok h.2))
def toN : Int → Nat
  | .ofNat n => 2 * n
  | .negSucc n => 2 * n + 1
/-! ### rows as keys -/
def nk (i : Nat) : NestedKey := .num (i : Int)
def kN (r : List Nat) : NestedKey := .tup (r.map nk)
theorem keyNs_nD : ∀ r : List Nat, keyNs (r.map nD) = some (r.map nk)
  | [] => rfl
  | x :: r => by
    show (match keyN (nD x), keyNs (r.map nD) with
      | some k, some ks => some (k :: ks)
      | _, _ => none) = _
    rw [keyNs_nD r]
    rfl
theorem depth_nums : ∀ r : List Nat, NestedKey.depthAll (r.map nk) = 0
  | [] => rfl
  | x :: r => by
    show max (NestedKey.depth (.num _)) (NestedKey.depthAll (r.map _)) = 0
    rw [depth_nums r]
    rfl
theorem keyN_tN (r : List Nat) : keyN (tN r) = some (kN r) := by
  show (keyNs (r.map nD)).map NestedKey.tup = _
  rw [keyNs_nD r]
  rfl
theorem depth_kN (r : List Nat) : (kN r).depth = 1 := by
  show NestedKey.depthAll (r.map nk) + 1 = 1
  rw [depth_nums]
theorem keyD_tN (r : List Nat) : keyD (tN r) = some (kN r) := by
  unfold keyD
  rw [keyN_tN]
  show (if (kN r).depth ≤ 8 then _ else _) = _
  rw [depth_kN, if_pos (by omega)]
theorem keyD_nD (n : Nat) : keyD (nD n) = some (nk n) := rfl
theorem nums_inj : ∀ {a b : List Nat}, (a.map nk) = (b.map nk) → a = b
  | [], [], _ => rfl
  | [], _ :: _, h => by cases h
  | _ :: _, [], h => by cases h
  | x :: a, y :: b, h => by
    rw [List.map_cons, List.map_cons] at h
    injection h with h1 h2
    have h1 : NestedKey.num (x : Int) = NestedKey.num (y : Int) := h1
    injection h1 with h1
    rw [nums_inj h2, show x = y by omega]
theorem kN_inj {a b : List Nat} (h : kN a = kN b) : a = b := by
  unfold kN at h
  injection h with h
  exact nums_inj h
theorem nk_inj {a b : Nat} (h : nk a = nk b) : a = b := by
  injection (show NestedKey.num (a : Int) = NestedKey.num (b : Int) from h) with h
  omega
/-- the permutations hash apart -/
theorem hash_apart {b : Nat} (hb : b ≤ 6) : ((permsL (List.range b)).map fun r => hashN (kN r)).Nodup := by
  rcases b with _ | _ | _ | _ | _ | _ | _ | b
  · decide +kernel
  · decide +kernel
  · decide +kernel
  · decide +kernel
  · decide +kernel
  · decide +kernel
  · refine nodup_unmap (f := toN) (nodupB_ok (n := 8) ?_)
    decide +kernel
  · omega
/-- dicts told by what they hold -/
def dN {τ : Type} (k v : τ → D) (l : List τ) : List (D × D) := l.map fun q => (k q, v q)
section
variable {τ : Type} {k v : τ → D} {K : τ → NestedKey} (hk : ∀ q, keyD (k q) = some (K q))
include hk
theorem dAt_some : ∀ {l : List τ}, (l.map K).Nodup → ∀ q ∈ l, dAt (dN k v l) (K q) = some (v q)
  | [], _, q, hq => by cases hq
  | p :: l, hn, q, hq => by
    rw [List.map_cons, List.nodup_cons] at hn
    show (if keyD (k p) = some (K q) then some (v p) else dAt (dN k v l) (K q)) = _
    rw [hk]
    rcases List.mem_cons.mp hq with rfl | hq
    · rw [if_pos rfl]
    · rw [if_neg (fun z => hn.1 (by rw [Option.some.inj z]; exact List.mem_map.mpr ⟨q, hq, rfl⟩))]
      exact dAt_some hn.2 q hq
theorem dAt_none {g : NestedKey} : ∀ {l : List τ}, g ∉ l.map K → dAt (dN k v l) g = none
  | [], _ => rfl
  | p :: l, h => by
    rw [List.map_cons, List.mem_cons, not_or] at h
    show (if keyD (k p) = some g then some (v p) else dAt (dN k v l) g) = _
    rw [hk, if_neg (fun z => h.1 (Option.some.inj z).symm)]
    exact dAt_none h.2
theorem dAt_isSome {g : NestedKey} {l : List τ} : (dAt (dN k v l) g).isSome = decide (g ∈ l.map K) := by
  induction l with
  | nil => rfl
  | cons p l ih =>
    show ((if keyD (k p) = some g then some (v p) else dAt (dN k v l) g)).isSome = _
    rw [hk]
    by_cases h : K p = g
    · rw [if_pos (by rw [h])]
      simp [h]
    · rw [if_neg (fun z => h (Option.some.inj z)), ih, List.map_cons]
      simp [Ne.symm h]
theorem dPut_new {q : τ} {l : List τ} (h : K q ∉ l.map K) : dPut (dN k v l) (K q) (k q) (v q) = dN k v (l ++ [q]) := by
  unfold dPut
  rw [dAt_none hk h]
  simp [dN]
theorem dFold_new : ∀ {l acc : List τ}, ((acc ++ l).map K).Nodup → dFold (dN k v acc) (l.map fun q => .tup [k q, v q]) = some (dN k v (acc ++ l))
  | [], acc, _ => by simp [dFold]
  | q :: l, acc, h => by
    have e : pairK (.tup [k q, v q]) = some (K q, k q, v q) := by
      show (keyD (k q)).map _ = _
      rw [hk]
      rfl
    show (match pairK (.tup [k q, v q]) with
      | some p => dFold (dPut (dN k v acc) p.1 p.2.1 p.2.2) (l.map fun q => .tup [k q, v q])
      | none => none) = _
    rw [e]
    show dFold (dPut (dN k v acc) (K q) (k q) (v q)) _ = _
    have hn : K q ∉ acc.map K := fun hm => by
      rw [List.map_append, List.nodup_append] at h
      exact h.2.2 _ hm _ (by simp) rfl
    rw [dPut_new hk hn, dFold_new (l := l) (acc := acc ++ [q]) (by simpa using h)]
    simp
theorem dict_pairs {l : List τ} (hn : (l.map K).Nodup) (hl : l.length ≤ 1000000) : opF .dict [.lst (l.map fun q => .tup [k q, v q])] = some (.dct (dN k v l)) := by
  show (if small (l.map fun q => D.tup [k q, v q]).length then (dFold [] _).map D.dct else none) = _
  rw [List.length_map, if_pos (small_of hl)]
  have := dFold_new hk (v := v) (l := l) (acc := []) (by simpa using hn)
  rw [show dN k v [] = [] from rfl] at this
  rw [this]
  simp
end
def kv (q : WR) : D × D := (tN q.2, tN q.1)
theorem kv_dN (reg : List WR) : reg.map kv = dN (fun q : WR => tN q.2) (fun q => tN q.1) reg := rfl
theorem dApart_rows {τ : Type} {k : τ → List Nat} {v : τ → D} {b : Nat} (hb : b ≤ 6) {l : List τ} (hp : ∀ q ∈ l, isPerm b (k q)) (hn : (l.map k).Nodup) : dApart (dN (fun q => tN (k q)) v l) = true := by
  unfold dApart
  refine List.all_eq_true.mpr fun p _ => ?_
  rw [Bool.or_eq_true]
  refine .inr (decide_eq_true (filter_le1 (f := fun q : D × D => hashD q.1) _ ?_))
  have e : (dN (fun q => tN (k q)) v l).map (fun p => hashD p.1) = (l.map k).map fun r => some (hashN (kN r)) := by
    unfold dN
    rw [List.map_map, List.map_map]
    refine List.map_congr_left fun q _ => ?_
    show (keyD (tN (k q))).map hashN = some (hashN (kN (k q)))
    rw [keyD_tN]
    rfl
  rw [e]
  refine nodup_map_on (fun x hx y hy h => ?_) hn
  have mem : ∀ x ∈ l.map k, x ∈ permsL (List.range b) := fun x hx => by
    obtain ⟨q, hq, rfl⟩ := List.mem_map.mp hx
    exact (hp q hq).mem
  exact inj_of_nodup (hash_apart hb) x (mem x hx) y (mem y hy) (Option.some.inj h)
theorem kN_nodup {τ : Type} {k : τ → List Nat} {l : List τ} (hn : (l.map k).Nodup) : (l.map fun q => kN (k q)).Nodup := by
  have := nodup_map_on (f := kN) (fun x _ y _ e => kN_inj e) hn
  rwa [List.map_map] at this
theorem kN_mem {τ : Type} {k : τ → List Nat} {l : List τ} (g : List Nat) : kN g ∈ l.map (fun q => kN (k q)) ↔ g ∈ l.map k := by
  constructor
  · intro h
    obtain ⟨q, hq, e⟩ := List.mem_map.mp h
    exact List.mem_map.mpr ⟨q, hq, kN_inj e⟩
  · intro h
    obtain ⟨q, hq, e⟩ := List.mem_map.mp h
    exact List.mem_map.mpr ⟨q, hq, by rw [e]⟩
theorem notin_reg {reg : List WR} (g : List Nat) : opC .notin (tN g) (.dct (reg.map kv)) = some (!decide (g ∈ reg.map (·.2))) := by
  show (keyD (tN g)).map (fun k => !(dAt (reg.map kv) k).isSome) = _
  rw [keyD_tN]
  show some (!(dAt (dN (fun q : WR => tN q.2) (fun q => tN q.1) reg) (kN g)).isSome) = _
  rw [dAt_isSome (K := fun q : WR => kN q.2) fun q => keyD_tN q.2]
  congr 2
  exact decide_eq_decide.mpr (kN_mem (k := fun q : WR => q.2) g)
theorem in_reg {reg : List WR} (g : List Nat) : opC .in_ (tN g) (.dct (reg.map kv)) = some (decide (g ∈ reg.map (·.2))) := by
  show (keyD (tN g)).map (fun k => (dAt (reg.map kv) k).isSome) = _
  rw [keyD_tN]
  show some ((dAt (dN (fun q : WR => tN q.2) (fun q => tN q.1) reg) (kN g)).isSome) = _
  rw [dAt_isSome (K := fun q : WR => kN q.2) fun q => keyD_tN q.2]
  congr 1
  exact decide_eq_decide.mpr (kN_mem (k := fun q : WR => q.2) g)
theorem idx_reg {reg : List WR} (hn : (reg.map (·.2)).Nodup) {q : WR} (hq : q ∈ reg) (c : Cup) : opI c (.dct (reg.map kv)) (tN q.2) = some (tN q.1) := by
  show (keyD (tN q.2)).bind (dAt (reg.map kv)) = _
  rw [keyD_tN]
  exact dAt_some (k := fun q : WR => tN q.2) (v := fun q => tN q.1) (K := fun q : WR => kN q.2) (fun q => keyD_tN q.2) (kN_nodup (k := fun q : WR => q.2) hn) q hq
theorem put_reg {reg : List WR} {g u : List Nat} (h : g ∉ reg.map (·.2)) : dPutO (reg.map kv) (tN g) (tN u) = some (.dct ((reg ++ [(u, g)]).map kv)) := by
  unfold dPutO
  rw [keyD_tN]
  show some (D.dct (dPut (reg.map kv) (kN g) (tN g) (tN u))) = _
  have := dPut_new (k := fun q : WR => tN q.2) (v := fun q => tN q.1) (K := fun q : WR => kN q.2) (fun q => keyD_tN q.2) (q := (u, g)) (l := reg) fun z => h ((kN_mem (k := fun q : WR => q.2) g).mp z)
  rw [kv_dN, this]
  rfl
theorem ok_reg {b : Nat} (hb : b ≤ 6) {reg : List WR} (hp : ∀ q ∈ reg, isPerm b q.2) (hn : (reg.map (·.2)).Nodup) (hl : reg.length ≤ 1000000) : dOk (.dct (reg.map kv)) = some (reg.map kv) := by
  show (if (dApart (reg.map kv) && small (reg.map kv).length) = true then some (reg.map kv) else none) = _
  rw [show dApart (reg.map kv) = true from dApart_rows (k := fun q : WR => q.2) hb hp hn, List.length_map, small_of hl]
  rfl
end PF
end

/-! ## PfI -/
section
/-! PfI: encodings that == tells apart; sorted rows; groups of rows. -/
set_option linter.all false
set_option autoImplicit false
namespace PF
open PySem
/-! ### encodings -/
mutual
theorem plainN_mono : ∀ {d : D} {n m : Nat}, plainN d n = true → n ≤ m → plainN d m = true
  | .non, n, m, _, _ => by cases m <;> rfl
  | .bl _, n, m, _, _ => by cases m <;> rfl
  | .int _, n, m, _, _ => by cases m <;> rfl
  | .str x, n, m, h, _ => by cases n <;> cases m <;> exact h
  | .tup xs, 0, m, h, _ => by cases h
  | .tup xs, n + 1, 0, _, h => by omega
  | .tup xs, n + 1, m + 1, h, hm => plainsN_mono (show plainsN xs n = true from h) (by omega)
  | .lst xs, 0, m, h, _ => by cases h
  | .lst xs, n + 1, 0, _, h => by omega
  | .lst xs, n + 1, m + 1, h, hm => plainsN_mono (show plainsN xs n = true from h) (by omega)
  | .dct _, n, m, h, _ => by cases n <;> cases h
  | .set _, n, m, h, _ => by cases n <;> cases h
  | .cup, n, m, h, _ => by cases n <;> cases h
  | .scr _, n, m, h, _ => by cases n <;> cases h
  | .exc _, n, m, h, _ => by cases n <;> cases h
theorem plainsN_mono : ∀ {xs : List D} {n m : Nat}, plainsN xs n = true → n ≤ m → plainsN xs m = true
  | [], n, m, _, _ => rfl
  | x :: xs, n, m, h, hm => by
    simp only [plainsN, Bool.and_eq_true] at h ⊢
    exact ⟨plainN_mono h.1 hm, plainsN_mono h.2 hm⟩
end
/-- a way to tell things as data -/
structure Enc {τ : Type} [DecidableEq τ] (f : τ → D) (n : Nat) : Prop where
  eq : ∀ a b, eqD (f a) (f b) = decide (a = b)
  pl : ∀ a, plainN (f a) n = true
theorem encNat : Enc nD 0 := ⟨fun a b => by
  show ((a : Int) == (b : Int)) = decide (a = b)
  by_cases h : a = b
  · simp [h]
  · have : ¬ (a : Int) = (b : Int) := by omega
    simp [h, this], fun a => rfl⟩
theorem encBool : Enc D.bl 0 := ⟨fun a b => by
  show (a == b) = decide (a = b)
  by_cases h : a = b
  · simp [h]
  · simp [h], fun a => rfl⟩
theorem encInt : Enc D.int 0 := ⟨fun a b => by
  show (a == b) = decide (a = b)
  by_cases h : a = b
  · simp [h]
  · simp [h], fun a => rfl⟩
section
variable {τ : Type} [DecidableEq τ] {f : τ → D} {n : Nat} (E : Enc f n)
include E
theorem Enc.eqs : ∀ (xs ys : List τ), eqDs (xs.map f) (ys.map f) = decide (xs = ys)
  | [], [] => rfl
  | [], _ :: _ => rfl
  | _ :: _, [] => rfl
  | x :: xs, y :: ys => by
    show (eqD (f x) (f y) && eqDs (xs.map f) (ys.map f)) = _
    rw [E.eq, Enc.eqs xs ys]
    by_cases h1 : x = y <;> by_cases h2 : xs = ys <;> simp [h1, h2]
theorem Enc.mkT : Enc (fun l : List τ => D.tup (l.map f)) (n + 1) := ⟨fun a b => E.eqs a b, fun a => plainN_tup fun x hx => by
  obtain ⟨y, _, rfl⟩ := List.mem_map.mp hx
  exact E.pl y⟩
theorem Enc.mkL : Enc (fun l : List τ => D.lst (l.map f)) (n + 1) := ⟨fun a b => E.eqs a b, fun a => plainN_lst fun x hx => by
  obtain ⟨y, _, rfl⟩ := List.mem_map.mp hx
  exact E.pl y⟩
theorem Enc.pln (hn : n ≤ 20) (a : τ) : plain (f a) = true := plainN_mono (E.pl a) hn
theorem Enc.plnL (hn : n ≤ 19) (l : List τ) : plain (.lst (l.map f)) = true := plainN_mono (E.mkL.pl l) (by omega)
theorem Enc.plnT (hn : n ≤ 19) (l : List τ) : plain (.tup (l.map f)) = true := plainN_mono (E.mkT.pl l) (by omega)
theorem Enc.opEq (hn : n ≤ 20) (a b : τ) : opC .eq (f a) (f b) = some (decide (a = b)) := by
  rw [opC_eq _ _ (E.pln hn a) (E.pln hn b), E.eq]
theorem Enc.opNe (hn : n ≤ 20) (a b : τ) : opC .ne (f a) (f b) = some (!decide (a = b)) := by
  rw [opC_ne _ _ (E.pln hn a) (E.pln hn b), E.eq]
theorem Enc.neNil (hn : n ≤ 19) (l : List τ) : opC .ne (.lst (l.map f)) (.lst []) = some (!decide (l = [])) := E.mkL.opNe (by omega) l []
theorem Enc.eqNil (hn : n ≤ 19) (l : List τ) : opC .eq (.lst (l.map f)) (.lst []) = some (decide (l = [])) := E.mkL.opEq (by omega) l []
theorem Enc.neNilT (hn : n ≤ 19) (l : List τ) : opC .ne (.tup (l.map f)) (.tup []) = some (!decide (l = [])) := E.mkT.opNe (by omega) l []
theorem Enc.isin (a : τ) : ∀ l : List τ, isIn (f a) (l.map f) = decide (a ∈ l)
  | [] => rfl
  | y :: l => by
    show (eqD (f y) (f a) || PF.isIn (f a) (l.map f)) = _
    rw [Enc.isin a l, E.eq]
    by_cases h1 : y = a
    · simp [h1]
    · simp [h1, Ne.symm h1]
theorem Enc.in_ (hn : n ≤ 19) (a : τ) (l : List τ) [d : Decidable (a ∈ l)] : opC .in_ (f a) (.lst (l.map f)) = some (decide (a ∈ l)) := by
  show (if PF.plain (f a) && PF.plain (.lst (l.map f)) then some (PF.isIn (f a) (l.map f)) else none) = _
  rw [E.pln (by omega), E.plnL hn, E.isin]
  exact congrArg some (decide_eq_decide.mpr Iff.rfl)
theorem Enc.notin (hn : n ≤ 19) (a : τ) (l : List τ) [d : Decidable (a ∈ l)] : opC .notin (f a) (.lst (l.map f)) = some (!decide (a ∈ l)) := by
  show (if PF.plain (f a) && PF.plain (.lst (l.map f)) then some (!PF.isIn (f a) (l.map f)) else none) = _
  rw [E.pln (by omega), E.plnL hn, E.isin]
  exact congrArg (fun z => some (!z)) (decide_eq_decide.mpr Iff.rfl)
theorem Enc.idx [BEq τ] [LawfulBEq τ] (a : τ) : ∀ l : List τ, a ∈ l → idxOf? (f a) (l.map f) = some (l.idxOf a)
  | [], h => by cases h
  | y :: l, h => by
    show (if eqD (f y) (f a) then some 0 else (idxOf? (f a) (l.map f)).map (· + 1)) = _
    rw [E.eq, List.idxOf_cons]
    by_cases e : y = a
    · simp [e]
    · have h2 : a ∈ l := by simpa [Ne.symm e] using h
      have e3 : (y == a) = false := by simpa using e
      simp [e, Enc.idx a l h2, e3]
theorem Enc.indexL [BEq τ] [LawfulBEq τ] (hn : n ≤ 19) {a : τ} {l : List τ} (h : a ∈ l) : opM .index (.lst (l.map f)) [f a] = some (PF.nD (l.idxOf a)) := by
  show (if PF.plain (f a) && PF.plain (.lst (l.map f)) then (idxOf? (f a) (l.map f)).map fun (j : Nat) => D.int (j : Int) else none) = _
  rw [E.pln (by omega), E.plnL hn, E.idx a l h]
  rfl
theorem Enc.indexT [BEq τ] [LawfulBEq τ] (hn : n ≤ 19) {a : τ} {l : List τ} (h : a ∈ l) : opM .index (.tup (l.map f)) [f a] = some (PF.nD (l.idxOf a)) := by
  show (if PF.plain (f a) && PF.plain (.tup (l.map f)) then (idxOf? (f a) (l.map f)).map fun (j : Nat) => D.int (j : Int) else none) = _
  rw [E.pln (by omega), E.plnT hn, E.idx a l h]
  rfl
theorem Enc.countL [BEq τ] [LawfulBEq τ] (hn : n ≤ 19) (a : τ) (l : List τ) : opM .count (.lst (l.map f)) [f a] = some (PF.nD (l.count a)) := by
  have e : ∀ l : List τ, ((l.map f).countP fun x => eqD x (f a)) = l.count a := fun l => by
    rw [List.countP_map]
    unfold List.count
    congr 1
    funext x
    show eqD (f x) (f a) = (x == a)
    rw [E.eq]
    by_cases h : x = a <;> simp [h]
  show (if PF.plain (f a) && PF.plain (.lst (l.map f)) then some (D.int (((l.map f).countP fun x => eqD x (f a) : Nat) : Int)) else none) = _
  rw [E.pln (by omega), E.plnL hn, e]
  rfl
end
theorem encR : Enc tN 1 := encNat.mkT
theorem encRL : Enc lN 1 := encNat.mkL
theorem encTT : Enc tL 2 := encR.mkT
theorem encLR : Enc lR 2 := encR.mkL
/-- None, or a thing -/
def oF {τ : Type} (f : τ → D) : Option τ → D
  | none => .non
  | some a => f a
theorem Enc.opt {τ : Type} [DecidableEq τ] {f : τ → D} {n : Nat} (E : Enc f n) (h1 : ∀ a, eqD .non (f a) = false) (h2 : ∀ a, eqD (f a) .non = false) : Enc (oF f) n := ⟨fun a b => by
  cases a with
  | none => cases b with
    | none => rfl
    | some b => exact (h1 b).trans rfl
  | some a => cases b with
    | none => exact (h2 a).trans rfl
    | some b => exact (E.eq a b).trans (decide_eq_decide.mpr (by simp)), fun a => by
  cases a with
  | none => cases n <;> rfl
  | some a => exact E.pl a⟩
theorem encON : Enc (oF PF.nD) 0 := encNat.opt (fun _ => rfl) fun _ => rfl
theorem encOT : Enc (oF PF.tN) 1 := encR.opt (fun _ => rfl) fun _ => rfl
/-! ### sorted rows -/
def leR (a b : List Nat) : Bool := lexLe (a.map fun i : Nat => (i : Int)) (b.map fun i : Nat => (i : Int))
theorem leR_total (a b : List Nat) : leR a b = true ∨ leR b a = true := lexLe_total _ _
theorem leR_trans (a b c : List Nat) : leR a b = true → leR b c = true → leR a c = true := lexLe_trans _ _ _
theorem leR_antisymm (a b : List Nat) (h1 : leR a b = true) (h2 : leR b a = true) : a = b := by
  have := lexLe_antisymm _ _ h1 h2
  exact List.map_inj_right (fun x y e => by exact Int.ofNat.inj e) |>.mp this
theorem isort_map {α β : Type} {f : α → β} {le : α → α → Bool} {le' : β → β → Bool} (h : ∀ a b, le' (f a) (f b) = le a b) : ∀ l : List α, isort le' (l.map f) = (isort le l).map f
  | [] => rfl
  | x :: l => by
    have hi : ∀ (x : α) (l : List α), ins le' (f x) (l.map f) = (ins le x l).map f := fun x l => by
      induction l with
      | nil => rfl
      | cons y l ih =>
        show (if le' (f x) (f y) then _ else _) = List.map f (if le x y then _ else _)
        rw [h]
        split
        · rfl
        · show f y :: ins le' (f x) (l.map f) = _
          rw [ih]
          rfl
    show ins le' (f x) (isort le' (l.map f)) = List.map f (ins le x (isort le l))
    rw [isort_map h l, hi]
theorem toks_tN : ∀ a b : List Nat, lexLe (tokGs (a.map nD)) (tokGs (b.map nD)) = leR a b
  | [], [] => rfl
  | [], _ :: _ => rfl
  | _ :: _, [] => rfl
  | x :: a, y :: b => by
    show (if (1 : Int) = 1 then (if (x : Int) = (y : Int) then lexLe (tokGs (a.map nD)) (tokGs (b.map nD)) else decide ((x : Int) < (y : Int))) else _) = _
    rw [if_pos rfl, toks_tN a b]
    rfl
theorem leG_tN (a b : List Nat) : leG (tN a) (tN b) = leR a b := toks_tN a b
theorem alikeGs_nD : ∀ a b : List Nat, alikeGs (a.map nD) (b.map nD) = true
  | [], b => by cases b <;> rfl
  | _ :: _, [] => rfl
  | x :: a, y :: b => by
    show (true && alikeGs (a.map nD) (b.map nD)) = true
    rw [alikeGs_nD a b]
    rfl
theorem nestGs_nD (n : Nat) : ∀ a : List Nat, nestGs (a.map nD) n = true
  | [] => rfl
  | x :: a => by
    show (nestG (.int x) n && nestGs (a.map nD) n) = true
    rw [nestGs_nD n a]
    cases n <;> rfl
theorem sortsG_rows (l : List (List Nat)) : sortsG (l.map tN) = true := by
  unfold sortsG
  refine List.all_eq_true.mpr fun a ha => ?_
  obtain ⟨r, _, rfl⟩ := List.mem_map.mp ha
  rw [Bool.and_eq_true, Bool.and_eq_true]
  refine ⟨⟨rfl, nestGs_nD 17 r⟩, List.all_eq_true.mpr fun b hb => ?_⟩
  obtain ⟨q, _, rfl⟩ := List.mem_map.mp hb
  exact alikeGs_nD r q
/-- the rows, sorted -/
def sortR (l : List (List Nat)) : List (List Nat) := isort leR l
theorem sortR_perm (l : List (List Nat)) : (sortR l).Perm l := isort_perm l
theorem sortR_sorted (l : List (List Nat)) : (sortR l).Pairwise fun a b => leR a b = true := isort_sorted leR_total leR_trans l
theorem sortR_mem {l : List (List Nat)} {r : List Nat} : r ∈ sortR l ↔ r ∈ l := (sortR_perm l).mem_iff
theorem sortR_eq {l l' : List (List Nat)} (h : l.Perm l') : sortR l = sortR l' :=
  isort_of leR_total leR_trans leR_antisymm ((sortR_perm l').trans h.symm) (sortR_sorted l')
theorem sorted_dct {τ : Type} (k : τ → List Nat) (v : τ → D) {l : List τ} (hl : l.length ≤ 1000000) : opF .sorted [.dct (dN (fun q => tN (k q)) v l)] = some (.lst ((sortR (l.map k)).map tN)) := by
  have e : (dN (fun q => tN (k q)) v l).map (·.1) = (l.map k).map tN := by simp [dN]
  show (if small (dN (fun q => tN (k q)) v l).length && sortsG ((dN (fun q => tN (k q)) v l).map (·.1)) then some (D.lst (isort leG ((dN (fun q => tN (k q)) v l).map (·.1)))) else none) = _
  rw [e, sortsG_rows, show (dN (fun q => tN (k q)) v l).length = l.length by simp [dN], small_of hl, isort_map leG_tN]
  rfl
theorem sorted_reg {reg : List WR} (hl : reg.length ≤ 1000000) : opF .sorted [.dct (reg.map kv)] = some (.lst ((sortR (reg.map (·.2))).map tN)) := sorted_dct (fun q : WR => q.2) (fun q => tN q.1) hl
theorem intsT_rows : ∀ l : List (List Nat), allSome ((l.map tN).map intsT?) = some (l.map fun r => r.map fun i : Nat => (i : Int))
  | [] => rfl
  | r :: l => by
    have e : intsT? (tN r) = some (r.map fun i : Nat => (i : Int)) := by
      show ints? (r.map nD) = _
      induction r with
      | nil => rfl
      | cons x r ih =>
        show (ints? (r.map nD)).map _ = _
        rw [ih]
        rfl
    show allSome (intsT? (tN r) :: (l.map tN).map intsT?) = _
    rw [e]
    show (allSome ((l.map tN).map intsT?)).map _ = _
    rw [intsT_rows l]
    rfl
theorem sorted_rows (l : List (List Nat)) : opF .sorted [.lst (l.map tN)] = some (.lst ((sortR l).map tN)) := by
  cases l with
  | nil => rfl
  | cons r l =>
    have e : ints? ((r :: l).map tN) = none := rfl
    show (sortD ((r :: l).map tN)).map D.lst = _
    unfold sortD
    rw [e, intsT_rows (r :: l)]
    show some (D.lst ((isort lexLe ((r :: l).map fun r : List Nat => r.map fun i : Nat => (i : Int))).map tupD)) = _
    rw [isort_map (le := leR) (le' := lexLe) (f := fun r : List Nat => r.map fun i : Nat => (i : Int)) (fun a b => rfl) (r :: l)]
    show some (D.lst (((isort leR (r :: l)).map _).map tupD)) = _
    rw [List.map_map]
    congr 2
    refine List.map_congr_left fun q _ => ?_
    show D.tup ((q.map fun i : Nat => (i : Int)).map D.int) = tN q
    rw [List.map_map]
    rfl
/-! ### rows that follow each other -/
def comp (r q : List Nat) : List Nat := q.map fun i => r.getD i 0
theorem getD_perm {b : Nat} {r : List Nat} (h : isPerm b r) {i : Nat} (hi : i < b) : r.getD i 0 < b ∧ r.idxOf (r.getD i 0) = i := by
  have hl : i < r.length := by rw [h.row.1]; exact hi
  have e : r[i]? = some (r.getD i 0) := by simp [List.getElem?_eq_getElem hl]
  exact ⟨lt_of_row h _ (List.mem_of_getElem? e), idx_of_get h.nd e⟩
theorem idx_perm {b : Nat} {r : List Nat} (h : isPerm b r) {x : Nat} (hx : x < b) : r.idxOf x < b ∧ r.getD (r.idxOf x) 0 = x := by
  have hm := h.row.2 x hx
  have hl := List.idxOf_lt_length_iff.mpr hm
  refine ⟨by rw [h.row.1] at hl; exact hl, ?_⟩
  rw [List.getD_eq_getElem?_getD, idx_get hm]
  rfl
theorem comp_length (r q : List Nat) : (comp r q).length = q.length := List.length_map ..
theorem comp_perm {b : Nat} {r q : List Nat} (hr : isPerm b r) (hq : isPerm b q) : isPerm b (comp r q) where
  nd := nodup_map_on (fun x hx y hy e => by
    have h1 := (getD_perm hr (lt_of_row hq x hx)).2
    have h2 := (getD_perm hr (lt_of_row hq y hy)).2
    rw [← h1, ← h2, e]) hq.nd
  row := ⟨by rw [comp_length]; exact hq.row.1, fun x hx => List.mem_map.mpr ⟨r.idxOf x, hq.row.2 _ (idx_perm hr hx).1, (idx_perm hr hx).2⟩⟩
theorem comp_getD {b : Nat} {r q : List Nat} (hq : isPerm b q) {i : Nat} (hi : i < b) : (comp r q).getD i 0 = r.getD (q.getD i 0) 0 := by
  have hl : i < q.length := by rw [hq.row.1]; exact hi
  simp [comp, List.getD_eq_getElem?_getD, List.getElem?_map, List.getElem?_eq_getElem hl]
theorem comp_assoc {b : Nat} {r q s : List Nat} (hq : isPerm b q) (hs : isPerm b s) : comp (comp r q) s = comp r (comp q s) := by
  unfold comp
  rw [List.map_map]
  refine List.map_congr_left fun i hi => ?_
  exact comp_getD hq (lt_of_row hs i hi)
theorem comp_one_left {b : Nat} {q : List Nat} (hq : isPerm b q) : comp (List.range b) q = q := by
  unfold comp
  have : ∀ i ∈ q, (List.range b).getD i 0 = i := fun i hi => by simp [List.getD_eq_getElem?_getD, lt_of_row hq i hi]
  rw [List.map_congr_left this, List.map_id']
theorem comp_one_right {b : Nat} {r : List Nat} (hr : isPerm b r) : comp r (List.range b) = r := by
  have := range_getD r
  rw [hr.row.1] at this
  exact this
theorem comp_inv_right {b : Nat} {r : List Nat} (hr : isPerm b r) : comp r (invP b r) = List.range b := by
  unfold comp invP
  rw [List.map_map]
  have : ∀ x ∈ List.range b, r.getD (r.idxOf x) 0 = x := fun x hx => (idx_perm hr (by simpa using hx)).2
  exact (List.map_congr_left this).trans (List.map_id' _)
theorem invP_perm {b : Nat} {r : List Nat} (hr : isPerm b r) : isPerm b (invP b r) where
  nd := nodup_map_on (fun x hx y hy e => by
    have h1 := (idx_perm hr (x := x) (by simpa using hx)).2
    have h2 := (idx_perm hr (x := y) (by simpa using hy)).2
    rw [← h1, ← h2, e]) List.nodup_range
  row := ⟨by simp [invP], fun x hx => List.mem_map.mpr ⟨r.getD x 0, by simpa using (getD_perm hr hx).1, (getD_perm hr hx).2⟩⟩
theorem invP_getD {b : Nat} {r : List Nat} {x : Nat} (hx : x < b) : (invP b r).getD x 0 = r.idxOf x := by
  simp [invP, List.getD_eq_getElem?_getD, List.getElem?_map, hx]
theorem perm_ext {b : Nat} {p q : List Nat} (hp : p.length = b) (hq : q.length = b) (h : ∀ i, i < b → p.getD i 0 = q.getD i 0) : p = q := by
  have h1 := range_getD p
  have h2 := range_getD q
  rw [hp] at h1
  rw [hq] at h2
  exact h1.symm.trans ((List.map_congr_left fun i hi => h i (by simpa using hi)).trans h2)
theorem comp_inv_left {b : Nat} {r : List Nat} (hr : isPerm b r) : comp (invP b r) r = List.range b := by
  refine perm_ext (b := b) (by rw [comp_length]; exact hr.row.1) (by simp) fun i hi => ?_
  rw [comp_getD hr hi, invP_getD (getD_perm hr hi).1, (getD_perm hr hi).2]
  simp [List.getD_eq_getElem?_getD, hi]
theorem comp_eq_iff {b : Nat} {r q t : List Nat} (hr : isPerm b r) (hq : isPerm b q) (ht : isPerm b t) : comp r q = t ↔ q = comp (invP b r) t := by
  constructor
  · rintro rfl
    rw [← comp_assoc hr hq, comp_inv_left hr, comp_one_left hq]
  · rintro rfl
    rw [← comp_assoc (invP_perm hr) ht, comp_inv_right hr, comp_one_left ht]
theorem comp_left_inj {b : Nat} {r q s : List Nat} (hr : isPerm b r) (hq : isPerm b q) (hs : isPerm b s) (e : comp r q = comp r s) : q = s := by
  have := (comp_eq_iff hr hq (comp_perm hr hs)).mp e
  rw [this, ← comp_assoc hr hs, comp_inv_left hr, comp_one_left hs]
theorem comp_right_inj {b : Nat} {r q s : List Nat} (hr : isPerm b r) (hq : isPerm b q) (hs : isPerm b s) (e : comp q r = comp s r) : q = s := by
  have h := congrArg (fun z => comp z (invP b r)) e
  simp only [comp_assoc hr (invP_perm hr), comp_inv_right hr, comp_one_right hq, comp_one_right hs] at h
  exact h
/-! ### groups -/
structure Grp (b : Nat) (G : List (List Nat)) : Prop where
  nd : G.Nodup
  pm : ∀ r ∈ G, isPerm b r
  one : List.range b ∈ G
  mul : ∀ r ∈ G, ∀ q ∈ G, comp r q ∈ G
  inv : ∀ r ∈ G, invP b r ∈ G
theorem Grp.sort {b : Nat} {G : List (List Nat)} (h : Grp b G) : Grp b (sortR G) where
  nd := (sortR_perm G).nodup_iff.mpr h.nd
  pm := fun r hr => h.pm r (sortR_mem.mp hr)
  one := sortR_mem.mpr h.one
  mul := fun r hr q hq => sortR_mem.mpr (h.mul r (sortR_mem.mp hr) q (sortR_mem.mp hq))
  inv := fun r hr => sortR_mem.mpr (h.inv r (sortR_mem.mp hr))
theorem Grp.len {b : Nat} {G : List (List Nat)} (h : Grp b G) (hb : b ≤ 6) : G.length ≤ 720 := by
  have h1 := List.Nodup.length_le_of_subset h.nd (l₂ := permsL (List.range b)) fun r hr => (h.pm r hr).mem
  have h2 : (permsL (List.range b)).length ≤ 720 := by
    rcases b with _ | _ | _ | _ | _ | _ | _ | b
    · decide +kernel
    · decide +kernel
    · decide +kernel
    · decide +kernel
    · decide +kernel
    · decide +kernel
    · decide +kernel
    · omega
  omega
section
variable {b : Nat} {ws : List (List (List Nat))}
theorem Lev.mem_iff {m : Nat} {R : List WR} (h : Lev ws (List.range b) none true m R []) {r : List Nat} : r ∈ R.map (·.2) ↔ ∃ u, wordOk ws u ∧ endOf (List.range b) ws u = r := by
  constructor
  · intro hr
    obtain ⟨q, hq, rfl⟩ := List.mem_map.mp hr
    exact ⟨q.1, (h.a q hq).2.1, (h.a q hq).1⟩
  · rintro ⟨u, hu, rfl⟩
    obtain ⟨q, hq, e, _⟩ := h.all u.length u rfl hu (.inl rfl)
    exact List.mem_map.mpr ⟨q, hq, e⟩
theorem Lev.grp {m : Nat} {R : List WR} (hw : waysOk b ws) (h : Lev ws (List.range b) none true m R []) : Grp b (R.map (·.2)) where
  nd := h.f
  pm := fun r hr => by
    obtain ⟨q, hq, rfl⟩ := List.mem_map.mp hr
    exact h.perm hw (isPerm_rounds b) q hq
  one := h.mem_iff.mpr ⟨[], fun i hi => (List.not_mem_nil hi).elim, rfl⟩
  mul := fun r hr q hq => by
    obtain ⟨u, hu, rfl⟩ := h.mem_iff.mp hr
    obtain ⟨v, hv, rfl⟩ := h.mem_iff.mp hq
    refine h.mem_iff.mpr ⟨u ++ v, fun i hi => (List.mem_append.mp hi).elim (hu i) (hv i), ?_⟩
    rw [endOf_append, endOf_act hw hv (endOf_perm hw hu (isPerm_rounds b)).row.1]
    rfl
  inv := fun r hr => by
    obtain ⟨u, hu, rfl⟩ := h.mem_iff.mp hr
    obtain ⟨v, hv, e⟩ := home_ex hw hu
    exact h.mem_iff.mpr ⟨v, hv, (home_iff hw hv (endOf_perm hw hu (isPerm_rounds b))).mp e⟩
theorem Lev.act {m : Nat} {R : List WR} (h : Lev ws (List.range b) none true m R []) {W : List (List Nat)} (hW : W ∈ ws) : leadTo (List.range b) W ∈ R.map (·.2) := by
  obtain ⟨i, hi, rfl⟩ := List.getElem_of_mem hW
  refine h.mem_iff.mpr ⟨[i], fun j hj => by rw [List.mem_singleton.mp hj]; exact hi, ?_⟩
  show leadTo (List.range b) (ws.getD i []) = _
  simp [hi]
end
/-! ### the table of a group -/
def tabOf (G : List (List Nat)) (A : List (List Nat)) : List (List Nat) := G.map fun r => A.map fun a => G.idxOf (comp r a)
theorem idx_inj_on {α : Type} [BEq α] [LawfulBEq α] {l : List α} {x y : α} (hx : x ∈ l) (h : l.idxOf x = l.idxOf y) : x = y := by
  have h1 := List.idxOf_lt_length_iff.mpr hx
  have h2 : l.idxOf y < l.length := by rw [← h]; exact h1
  have e1 := List.getElem_idxOf h1
  have e2 := List.getElem_idxOf h2
  rw [← e1, ← e2]
  simp only [h]
/-- a column holds each number once -/
theorem Grp.col {b : Nat} {G : List (List Nat)} (h : Grp b G) {a : List Nat} (ha : a ∈ G) : (G.map fun r => G.idxOf (comp r a)).Nodup := by
  refine nodup_map_on (fun x hx y hy e => ?_) h.nd
  have := idx_inj_on (h.mul x hx a ha) e
  exact comp_right_inj (h.pm a ha) (h.pm x hx) (h.pm y hy) this
end PF
end

/-! ## PfJ -/
section
/-! PfJ: numbers each once; tables; leadings. -/
set_option linter.all false
set_option autoImplicit false
namespace PF
open PySem
theorem ints_nD : ∀ c : List Nat, ints? (c.map nD) = some (c.map fun i : Nat => (i : Int))
  | [] => rfl
  | x :: r => by
    show (ints? (r.map nD)).map _ = _
    rw [ints_nD r]
    rfl
theorem nubI_nodup : ∀ {l : List Int}, l.Nodup → nubI l = l
  | [], _ => rfl
  | x :: l, h => by
    rw [List.nodup_cons] at h
    show (if x ∈ l then _ else _) = _
    rw [if_neg h.1, nubI_nodup h.2]
theorem nodup_zi {l : List Nat} (h : l.Nodup) : (l.map fun i : Nat => (i : Int)).Nodup := nodup_map_on (fun x _ y _ e => by omega) h
theorem lset_nodup {l : List Nat} (h : l.Nodup) (hl : l.length ≤ 4000) : lsetI (l.map nD) = some (nD l.length) := by
  unfold lsetI
  rw [ints_nD]
  show (if _ then _ else _) = _
  rw [if_pos (by simpa using hl), nubI_nodup (nodup_zi h), List.length_map]
  rfl
theorem lset_tN {l : List Nat} (h : l.Nodup) (hl : l.length ≤ 4000) : lsetO (tN l) = some (nD l.length) := lset_nodup h hl
theorem lset_lN {l : List Nat} (h : l.Nodup) (hl : l.length ≤ 4000) : lsetO (.lst (l.map nD)) = some (nD l.length) := lset_nodup h hl
theorem mul_nD (n : Nat) {m : Nat} (h : m < 18446744073709551616) : opB .mul (nD n) (nD m) = some (nD (n * m)) := by
  unfold nD
  simp only [opB]
  rw [if_pos (Or.inr ⟨by omega, by omega⟩)]
  simp
theorem mul_nD' {n : Nat} (m : Nat) (h : n < 18446744073709551616) : opB .mul (nD n) (nD m) = some (nD (n * m)) := by
  unfold nD
  simp only [opB]
  rw [if_pos (Or.inl ⟨by omega, by omega⟩)]
  simp
/-! ### tables -/
structure TabOk (T : List (List Nat)) (k : Nat) : Prop where
  n1 : 1 ≤ T.length
  n2 : T.length ≤ 720
  k1 : 1 ≤ k
  k2 : k ≤ 6
  row : ∀ it ∈ T, it.length = k ∧ ∀ x ∈ it, x < T.length
  col : ∀ w, w < k → (T.map fun it => it.getD w 0).Nodup
theorem Grp.tab {b : Nat} {G A : List (List Nat)} (h : Grp b G) (hb : b ≤ 6) (hA : ∀ a ∈ A, a ∈ G) (h1 : 1 ≤ A.length) (h2 : A.length ≤ 6) : TabOk (tabOf G A) A.length where
  n1 := by
    have := List.length_pos_of_mem h.one
    simp [tabOf]
    omega
  n2 := by simp only [tabOf, List.length_map]; exact h.len hb
  k1 := h1
  k2 := h2
  row := fun it hit => by
    obtain ⟨r, hr, rfl⟩ := List.mem_map.mp hit
    refine ⟨by simp, fun x hx => ?_⟩
    obtain ⟨a, ha, rfl⟩ := List.mem_map.mp hx
    have := List.idxOf_lt_length_iff.mpr (h.mul r hr a (hA a ha))
    simpa [tabOf] using this
  col := fun w hw => by
    have e : ((tabOf G A).map fun it => it.getD w 0) = G.map fun r => G.idxOf (comp r (A.getD w [])) := by
      unfold tabOf
      rw [List.map_map]
      refine List.map_congr_left fun r _ => ?_
      simp [List.getD_eq_getElem?_getD, hw]
    rw [e]
    refine h.col (hA _ ?_)
    simp [List.getD_eq_getElem?_getD, hw]
/-- the ways that go so -/
def soN (T : List (List Nat)) (L : List Nat) : List (List Nat) := (T.zip L).map fun q => (q.1.zipIdx).filterMap fun p => if p.1 = q.2 then some p.2 else none
def prodN (l : List Nat) : Nat := l.foldl (· * ·) 1
/-- the places at which a thing stands -/
def placesOf {α : Type} [DecidableEq α] (a : α) (l : List α) : List Nat := l.zipIdx.filterMap fun p => if p.1 = a then some p.2 else none
theorem placesOf_map {α β : Type} [DecidableEq α] [DecidableEq β] (f : α → β) (a : α) (l : List α) (h : ∀ x ∈ l, f x = f a ↔ x = a) : placesOf (f a) (l.map f) = placesOf a l := by
  unfold placesOf
  suffices ∀ (l : List α) (n : Nat), (∀ x ∈ l, f x = f a ↔ x = a) → ((l.map f).zipIdx n).filterMap (fun p => if p.1 = f a then some p.2 else none) = (l.zipIdx n).filterMap fun p => if p.1 = a then some p.2 else none from this l 0 h
  intro l
  induction l with
  | nil => intro n _; rfl
  | cons x l ih =>
    intro n h
    have hx := h x List.mem_cons_self
    rw [List.map_cons, List.zipIdx_cons, List.zipIdx_cons, List.filterMap_cons, List.filterMap_cons, ih (n + 1) fun y hy => h y (List.mem_cons_of_mem _ hy)]
    simp only [hx]
theorem placesOf_facts {α : Type} [DecidableEq α] [BEq α] [LawfulBEq α] (a : α) (l : List α) : (placesOf a l).length = l.count a ∧ (placesOf a l = [] ↔ a ∉ l) ∧ (a ∈ l → (placesOf a l)[0]? = some (l.idxOf a)) := by
  unfold placesOf
  suffices ∀ (l : List α) (n : Nat), ((l.zipIdx n).filterMap fun p => if p.1 = a then some p.2 else none).length = l.count a ∧ (((l.zipIdx n).filterMap fun p => if p.1 = a then some p.2 else none) = [] ↔ a ∉ l) ∧ (a ∈ l → ((l.zipIdx n).filterMap fun p => if p.1 = a then some p.2 else none)[0]? = some (n + l.idxOf a)) by
    have := this l 0
    simpa using this
  intro l
  induction l with
  | nil => intro n; simp
  | cons x l ih =>
    intro n
    obtain ⟨h1, h2, h3⟩ := ih (n + 1)
    rw [List.zipIdx_cons, List.filterMap_cons, List.count_cons, List.idxOf_cons]
    by_cases hx : x = a
    · subst hx
      simp [h1]
    · have hb : (x == a) = false := by simpa using hx
      simp only [hx, if_false, hb, Bool.false_eq_true, Nat.add_zero, cond_false]
      refine ⟨h1, by rw [h2, List.mem_cons, not_or]; exact ⟨fun z => ⟨Ne.symm hx, z⟩, fun z => z.2⟩, fun hm => ?_⟩
      rcases List.mem_cons.mp hm with hm | hm
      · exact absurd hm.symm hx
      · rw [h3 hm]; congr 1; omega
end PF
end

/-! ## PfJ2 -/
section
/-! PfJ2: leadings to rows. -/
set_option linter.all false
set_option autoImplicit false
namespace PF
open PySem
theorem zipD_same {τ : Type} (g h : τ → D) : ∀ l : List τ, zipD (l.map g) (l.map h) = l.map fun x => .tup [g x, h x]
  | [] => rfl
  | x :: l => by
    show D.tup [g x, h x] :: zipD (l.map g) (l.map h) = _
    rw [zipD_same g h l]
    rfl
/-- the places of what is not there -/
def lacks (A l : List (List Nat)) : List Nat := l.zipIdx.filterMap fun p => if p.1 ∈ A then none else some p.2
theorem lacks_facts {A : List (List Nat)} (l : List (List Nat)) : (lacks A l = [] ↔ ∀ q ∈ l, q ∈ A) ∧ (lacks A l ≠ [] → (lacks A l)[0]? = some ((l.map fun q => placesOf q A).idxOf [])) := by
  unfold lacks
  suffices ∀ (l : List (List Nat)) (n : Nat), (((l.zipIdx n).filterMap fun p => if p.1 ∈ A then none else some p.2) = [] ↔ ∀ q ∈ l, q ∈ A) ∧ (((l.zipIdx n).filterMap fun p => if p.1 ∈ A then none else some p.2) ≠ [] → ((l.zipIdx n).filterMap fun p => if p.1 ∈ A then none else some p.2)[0]? = some (n + (l.map fun q => placesOf q A).idxOf [])) by
    have := this l 0
    simpa using this
  intro l
  induction l with
  | nil => intro n; simp
  | cons x l ih =>
    intro n
    obtain ⟨h1, h2⟩ := ih (n + 1)
    rw [List.zipIdx_cons, List.filterMap_cons, List.map_cons, List.idxOf_cons]
    have hx := (placesOf_facts x A).2.1
    by_cases h : x ∈ A
    · have hne : ¬ placesOf x A = [] := fun z => hx.mp z h
      have hb : (placesOf x A == []) = false := by simpa using hne
      simp only [h, if_true, hb, cond_false]
      refine ⟨by rw [h1]; simp [h], fun z => ?_⟩
      rw [h2 z]
      congr 1
      omega
    · have hz : placesOf x A = [] := hx.mpr h
      simp [h, hz]
section
variable {b : Nat} {G A : List (List Nat)} (h : Grp b G) (hA : ∀ a ∈ A, a ∈ G) {f : List Nat → List Nat} (hf : ∀ r ∈ G, f r ∈ G)
/-- the rows between -/
def quos (b : Nat) (G : List (List Nat)) (f : List Nat → List Nat) : List (List Nat) := G.map fun r => comp (invP b r) (f r)
def leadOf (G : List (List Nat)) (f : List Nat → List Nat) : List Nat := G.map fun r => G.idxOf (f r)
include h hA hf
theorem so_rows : soN (tabOf G A) (leadOf G f) = (quos b G f).map fun q => placesOf q A := by
  unfold soN tabOf leadOf quos
  rw [List.zip_map', List.map_map, List.map_map]
  refine List.map_congr_left fun r hr => ?_
  show placesOf (G.idxOf (f r)) (A.map fun a => G.idxOf (comp r a)) = placesOf (comp (invP b r) (f r)) A
  have hp := h.pm r hr
  have hq := h.pm _ (hf r hr)
  have e : G.idxOf (f r) = (fun a => G.idxOf (comp r a)) (comp (invP b r) (f r)) := by
    show _ = G.idxOf (comp r (comp (invP b r) (f r)))
    rw [← comp_assoc (invP_perm hp) hq, comp_inv_right hp, comp_one_left hq]
  rw [e]
  refine placesOf_map (fun a => G.idxOf (comp r a)) _ A fun x hx => ⟨fun z => ?_, fun z => by rw [z]⟩
  have := idx_inj_on (h.mul r hr x (hA x hx)) z
  exact comp_left_inj hp (h.pm x (hA x hx)) (comp_perm (invP_perm hp) hq) this
omit hA hf in
theorem lead_ok (hf : ∀ r ∈ G, f r ∈ G) (hi : ∀ r ∈ G, ∀ s ∈ G, f r = f s → r = s) : (leadOf G f).length = G.length ∧ (∀ x ∈ leadOf G f, x < G.length) ∧ (leadOf G f).Nodup := by
  refine ⟨by simp [leadOf], fun x hx => ?_, nodup_map_on (fun r hr s hs e => hi r hr s hs (idx_inj_on (hf r hr) e)) h.nd⟩
  obtain ⟨r, hr, rfl⟩ := List.mem_map.mp hx
  exact List.idxOf_lt_length_iff.mpr (hf r hr)
theorem so_nil : [] ∈ soN (tabOf G A) (leadOf G f) ↔ lacks A (quos b G f) ≠ [] := by
  rw [so_rows h hA hf, ne_eq, (lacks_facts (quos b G f)).1]
  constructor
  · intro z w
    obtain ⟨q, hq, e⟩ := List.mem_map.mp z
    exact (placesOf_facts q A).2.1.mp e (w q hq)
  · intro w
    refine Classical.byContradiction fun z => w fun q hq => Classical.byContradiction fun y => z ?_
    exact List.mem_map.mpr ⟨q, hq, (placesOf_facts q A).2.1.mpr y⟩
theorem so_first (w : lacks A (quos b G f) ≠ []) : (lacks A (quos b G f))[0]? = some ((soN (tabOf G A) (leadOf G f)).idxOf []) := by
  rw [so_rows h hA hf]
  exact (lacks_facts (quos b G f)).2 w
theorem so_heads (w : lacks A (quos b G f) = []) : (soN (tabOf G A) (leadOf G f)).map (fun s => s.headD 0) = (quos b G f).map fun q => A.idxOf q := by
  rw [so_rows h hA hf, List.map_map]
  refine List.map_congr_left fun q hq => ?_
  have := (placesOf_facts q A).2.2 ((lacks_facts (quos b G f)).1.mp w q hq)
  show (placesOf q A).headD 0 = _
  cases e : placesOf q A with
  | nil => rw [e] at this; cases this
  | cons x s => rw [e] at this; exact Option.some.inj this
theorem so_counts : (soN (tabOf G A) (leadOf G f)).map List.length = (quos b G f).map fun q => A.count q := by
  rw [so_rows h hA hf, List.map_map]
  exact List.map_congr_left fun q _ => (placesOf_facts q A).1
end
end PF
end

/-! ## K93m -/
section
set_option Elab.async false
set_option linter.all false
set_option autoImplicit false
set_option maxRecDepth 100000
namespace PF.K93
open PySem PF

def kinWs : List (Str × Str) := []
/-- is_whole -/
def f_is_whole : Fn := ⟨3, 3, (.cons (.ret (.and (.isi (.var 0) .int) (.and (.not (.isi (.var 0) .bool)) (.chain .le .le (.var 1) (.var 0) (.var 2))))) .nil)⟩
def o_is_whole : Orc := fun _ _ => M.stuck
def m_is_whole : List D → M D := evF (kinW kinWs) o_is_whole f_is_whole
/-- is_tuple_of -/
def f_is_tuple_of : Fn := ⟨3, 3, (.cons (.ret (.and (.isi (.var 0) .tuple) (.chain .le .le (.var 1) (.blt .len (.cons (.var 0) .nil)) (.var 2)))) .nil)⟩
def o_is_tuple_of : Orc := fun _ _ => M.stuck
def m_is_tuple_of : List D → M D := evF (kinW kinWs) o_is_tuple_of f_is_tuple_of
/-- fits_row -/
def xe_fits_row_0 : Ex := (.call 1 (.cons (.var 3) (.cons (.cst (.int 0)) (.cons (.bin .sub (.blt .len (.cons (.var 0) .nil)) (.cst (.int 1))) .nil))))
def f_fits_row : Fn := ⟨4, 3, (.cons (.ite (.or (.not (.call 0 (.cons (.var 0) (.cons (.var 1) (.cons (.var 2) .nil))))) (.not (.blt .all (.cons (.lc (.nm 3) (.val (.var 0)) xe_fits_row_0) .nil)))) (.cons (.ret (.cst (.bl false))) .nil) .nil) (.cons (.ret (.cmp .eq (.lset (.var 0)) (.blt .len (.cons (.var 0) .nil)))) .nil))⟩
def o_fits_row : Orc := fun g ds => match g with | 0 => m_is_tuple_of ds | 1 => m_is_whole ds | _ => M.stuck
def m_fits_row : List D → M D := evF (kinW kinWs) o_fits_row f_fits_row
/-- fits_change -/
def xe_fits_change_0 : Ex := (.call 0 (.cons (.var 4) (.cons (.cst (.int 0)) (.cons (.bin .sub (.var 0) (.cst (.int 2))) .nil))))
def xe_fits_change_1 : Ex := (.cmp .lt (.bin .add (.var 2) (.cst (.int 1))) (.var 3))
def f_fits_change : Fn := ⟨5, 2, (.cons (.ite (.or (.not (.isi (.var 1) .tuple)) (.not (.blt .all (.cons (.lc (.nm 4) (.val (.var 1)) xe_fits_change_0) .nil)))) (.cons (.ret (.cst (.bl false))) .nil) .nil) (.cons (.ret (.blt .all (.cons (.lc (.tp [(.nm 2), (.nm 3)]) (.zip (.var 1) (.sl (.var 1) (.some (.cst (.int 1))) .no)) xe_fits_change_1) .nil))) .nil))⟩
def o_fits_change : Orc := fun g ds => match g with | 0 => m_is_whole ds | _ => M.stuck
def m_fits_change : List D → M D := evF (kinW kinWs) o_fits_change f_fits_change
/-- rounds_of -/
def f_rounds_of : Fn := ⟨1, 1, (.cons (.ret (.trg1 true (.var 0))) .nil)⟩
def o_rounds_of : Orc := fun _ _ => M.stuck
def m_rounds_of : List D → M D := evF (kinW kinWs) o_rounds_of f_rounds_of
/-- changed -/
def lb_changed_0 : Sts := (.cons (.asg false 0 (.bin .add (.bin .add (.sl (.var 0) .no (.some (.var 2))) (.tup (.cons (.idx (.var 0) (.bin .add (.var 2) (.cst (.int 1)))) (.cons (.idx (.var 0) (.var 2)) .nil)))) (.sl (.var 0) (.some (.bin .add (.var 2) (.cst (.int 2)))) .no))) .nil)
def f_changed : Fn := ⟨3, 2, (.cons (.for (.nm 2) (.val (.var 1)) lb_changed_0) (.cons (.ret (.var 0)) .nil))⟩
def o_changed : Orc := fun _ _ => M.stuck
def m_changed : List D → M D := evF (kinW kinWs) o_changed f_changed
/-- acted -/
def xe_acted_0 : Ex := (.idx (.var 0) (.var 2))
def f_acted : Fn := ⟨3, 2, (.cons (.ret (.blt .tuple (.cons (.lc (.nm 2) (.val (.var 1)) xe_acted_0) .nil))) .nil)⟩
def o_acted : Orc := fun _ _ => M.stuck
def m_acted : List D → M D := evF (kinW kinWs) o_acted f_acted
/-- undone -/
def xe_undone_0 : Ex := (.mth .index (.var 0) (.cons (.var 1) .nil))
def f_undone : Fn := ⟨2, 1, (.cons (.ret (.blt .tuple (.cons (.lc (.nm 1) (.rng1 (.blt .len (.cons (.var 0) .nil))) xe_undone_0) .nil))) .nil)⟩
def o_undone : Orc := fun _ _ => M.stuck
def m_undone : List D → M D := evF (kinW kinWs) o_undone f_undone
/-- need_bells -/
def f_need_bells : Fn := ⟨1, 1, (.cons (.ite (.not (.call 0 (.cons (.var 0) (.cons (.glb "FEWEST" (.int 2)) (.cons (.glb "MOST" (.int 6)) .nil))))) (.cons (.rse "InvalidBells") .nil) .nil) .nil)⟩
def o_need_bells : Orc := fun g ds => match g with | 0 => m_is_whole ds | _ => M.stuck
def m_need_bells : List D → M D := evF (kinW kinWs) o_need_bells f_need_bells
/-- need_row -/
def f_need_row : Fn := ⟨3, 3, (.cons (.ite (.not (.call 0 (.cons (.var 0) (.cons (.var 1) (.cons (.var 2) .nil))))) (.cons (.rse "InvalidRow") .nil) .nil) .nil)⟩
def o_need_row : Orc := fun g ds => match g with | 0 => m_fits_row ds | _ => M.stuck
def m_need_row : List D → M D := evF (kinW kinWs) o_need_row f_need_row
/-- followed_by -/
def f_followed_by : Fn := ⟨2, 2, (.cons (.ex (.call 0 (.cons (.var 0) (.cons (.glb "FEWEST" (.int 2)) (.cons (.glb "MOST" (.int 6)) .nil))))) (.cons (.ex (.call 0 (.cons (.var 1) (.cons (.blt .len (.cons (.var 0) .nil)) (.cons (.blt .len (.cons (.var 0) .nil)) .nil))))) (.cons (.ret (.call 1 (.cons (.var 0) (.cons (.var 1) .nil)))) .nil)))⟩
def o_followed_by : Orc := fun g ds => match g with | 0 => m_need_row ds | 1 => m_acted ds | _ => M.stuck
def m_followed_by : List D → M D := evF (kinW kinWs) o_followed_by f_followed_by
/-- row_undone -/
def f_row_undone : Fn := ⟨1, 1, (.cons (.ex (.call 0 (.cons (.var 0) (.cons (.glb "FEWEST" (.int 2)) (.cons (.glb "MOST" (.int 6)) .nil))))) (.cons (.ret (.call 1 (.cons (.var 0) .nil))) .nil))⟩
def o_row_undone : Orc := fun g ds => match g with | 0 => m_need_row ds | 1 => m_undone ds | _ => M.stuck
def m_row_undone : List D → M D := evF (kinW kinWs) o_row_undone f_row_undone
/-- fits_table -/
def xe_fits_table_0 : Ex := (.call 0 (.cons (.var 2) (.cons (.cst (.int 1)) (.cons (.glb "WAYS_choices" (.int 6)) .nil))))
def xe_fits_table_1 : Ex := (.call 1 (.cons (.var 4) (.cons (.cst (.int 0)) (.cons (.bin .sub (.blt .len (.cons (.var 0) .nil)) (.cst (.int 1))) .nil))))
def lb_fits_table_0 : Sts := (.cons (.ite (.or (.cmp .ne (.blt .len (.cons (.var 2) .nil)) (.var 1)) (.not (.blt .all (.cons (.lc (.nm 4) (.val (.var 2)) xe_fits_table_1) .nil)))) (.cons (.ret (.cst (.bl false))) .nil) .nil) .nil)
def xe_fits_table_2 : Ex := (.idx (.var 2) (.var 3))
def xe_fits_table_3 : Ex := (.cmp .eq (.lset (.lc (.nm 2) (.val (.var 0)) xe_fits_table_2)) (.blt .len (.cons (.var 0) .nil)))
def f_fits_table : Fn := ⟨5, 1, (.cons (.ite (.or (.not (.call 0 (.cons (.var 0) (.cons (.cst (.int 1)) (.cons (.glb "ROWS" (.int 720)) .nil))))) (.not (.blt .all (.cons (.lc (.nm 2) (.val (.var 0)) xe_fits_table_0) .nil)))) (.cons (.ret (.cst (.bl false))) .nil) .nil) (.cons (.asg false 1 (.blt .len (.cons (.idx (.var 0) (.cst (.int 0))) .nil))) (.cons (.for (.nm 2) (.val (.var 0)) lb_fits_table_0) (.cons (.ret (.blt .all (.cons (.lc (.nm 3) (.rng1 (.var 1)) xe_fits_table_3) .nil))) .nil))))⟩
def o_fits_table : Orc := fun g ds => match g with | 0 => m_is_tuple_of ds | 1 => m_is_whole ds | _ => M.stuck
def m_fits_table : List D → M D := evF (kinW kinWs) o_fits_table f_fits_table
/-- fits_choice -/
def xe_fits_choice_0 : Ex := (.call 1 (.cons (.var 2) (.cons (.cst (.int 0)) (.cons (.bin .sub (.blt .len (.cons (.idx (.var 0) (.cst (.int 0))) .nil)) (.cst (.int 1))) .nil))))
def f_fits_choice : Fn := ⟨3, 2, (.cons (.ite (.not (.call 0 (.cons (.var 1) (.cons (.blt .len (.cons (.var 0) .nil)) (.cons (.blt .len (.cons (.var 0) .nil)) .nil))))) (.cons (.ret (.cst (.bl false))) .nil) .nil) (.cons (.ret (.blt .all (.cons (.lc (.nm 2) (.val (.var 1)) xe_fits_choice_0) .nil))) .nil))⟩
def o_fits_choice : Orc := fun g ds => match g with | 0 => m_is_tuple_of ds | 1 => m_is_whole ds | _ => M.stuck
def m_fits_choice : List D → M D := evF (kinW kinWs) o_fits_choice f_fits_choice
/-- need_table -/
def f_need_table : Fn := ⟨1, 1, (.cons (.ite (.not (.call 0 (.cons (.var 0) .nil))) (.cons (.rse "InvalidTable") .nil) .nil) .nil)⟩
def o_need_table : Orc := fun g ds => match g with | 0 => m_fits_table ds | _ => M.stuck
def m_need_table : List D → M D := evF (kinW kinWs) o_need_table f_need_table
/-- need_choice -/
def f_need_choice : Fn := ⟨2, 2, (.cons (.ite (.not (.call 0 (.cons (.var 0) (.cons (.var 1) .nil)))) (.cons (.rse "InvalidChoice") .nil) .nil) .nil)⟩
def o_need_choice : Orc := fun g ds => match g with | 0 => m_fits_choice ds | _ => M.stuck
def m_need_choice : List D → M D := evF (kinW kinWs) o_need_choice f_need_choice
/-- nexts_by -/
def xe_nexts_by_0 : Ex := (.idx (.var 2) (.var 3))
def f_nexts_by : Fn := ⟨4, 2, (.cons (.ret (.blt .tuple (.cons (.lc (.tp [(.nm 2), (.nm 3)]) (.zip (.var 0) (.var 1)) xe_nexts_by_0) .nil))) .nil)⟩
def o_nexts_by : Orc := fun _ _ => M.stuck
def m_nexts_by : List D → M D := evF (kinW kinWs) o_nexts_by f_nexts_by
/-- next_ones -/
def f_next_ones : Fn := ⟨2, 2, (.cons (.ex (.call 0 (.cons (.var 0) .nil))) (.cons (.ex (.call 1 (.cons (.var 0) (.cons (.var 1) .nil)))) (.cons (.ret (.call 2 (.cons (.var 0) (.cons (.var 1) .nil)))) .nil)))⟩
def o_next_ones : Orc := fun g ds => match g with | 0 => m_need_table ds | 1 => m_need_choice ds | 2 => m_nexts_by ds | _ => M.stuck
def m_next_ones : List D → M D := evF (kinW kinWs) o_next_ones f_next_ones
/-- need_leading -/
def xe_need_leading_0 : Ex := (.call 1 (.cons (.var 3) (.cons (.cst (.int 0)) (.cons (.bin .sub (.var 2) (.cst (.int 1))) .nil))))
def f_need_leading : Fn := ⟨4, 2, (.cons (.asg false 2 (.blt .len (.cons (.var 0) .nil))) (.cons (.ite (.or (.not (.call 0 (.cons (.var 1) (.cons (.var 2) (.cons (.var 2) .nil))))) (.not (.blt .all (.cons (.lc (.nm 3) (.val (.var 1)) xe_need_leading_0) .nil)))) (.cons (.rse "InvalidLeading") .nil) .nil) (.cons (.ite (.cmp .lt (.lset (.var 1)) (.var 2)) (.cons (.rse "InvalidLeading") .nil) .nil) .nil)))⟩
def o_need_leading : Orc := fun g ds => match g with | 0 => m_is_tuple_of ds | 1 => m_is_whole ds | _ => M.stuck
def m_need_leading : List D → M D := evF (kinW kinWs) o_need_leading f_need_leading
/-- ways_so -/
def xc_ways_so_0 : Ex := (.cmp .eq (.var 5) (.var 3))
def xe_ways_so_0 : Ex := (.var 4)
def xe_ways_so_1 : Ex := (.lcif (.tp [(.nm 4), (.nm 5)]) (.enum (.var 2)) xc_ways_so_0 xe_ways_so_0)
def f_ways_so : Fn := ⟨6, 2, (.cons (.ret (.lc (.tp [(.nm 2), (.nm 3)]) (.zip (.var 0) (.var 1)) xe_ways_so_1)) .nil)⟩
def o_ways_so : Orc := fun _ _ => M.stuck
def m_ways_so : List D → M D := evF (kinW kinWs) o_ways_so f_ways_so
/-- choice_for -/
def xe_choice_for_0 : Ex := (.idx (.var 3) (.cst (.int 0)))
def f_choice_for : Fn := ⟨4, 2, (.cons (.ex (.call 0 (.cons (.var 0) .nil))) (.cons (.ex (.call 1 (.cons (.var 0) (.cons (.var 1) .nil)))) (.cons (.asg false 2 (.call 2 (.cons (.var 0) (.cons (.var 1) .nil)))) (.cons (.ret (.ite (.cmp .notin (.lst .nil) (.var 2)) (.blt .tuple (.cons (.lc (.nm 3) (.val (.var 2)) xe_choice_for_0) .nil)) (.cst .non))) .nil))))⟩
def o_choice_for : Orc := fun g ds => match g with | 0 => m_need_table ds | 1 => m_need_leading ds | 2 => m_ways_so ds | _ => M.stuck
def m_choice_for : List D → M D := evF (kinW kinWs) o_choice_for f_choice_for
/-- first_without -/
def f_first_without : Fn := ⟨3, 2, (.cons (.ex (.call 0 (.cons (.var 0) .nil))) (.cons (.ex (.call 1 (.cons (.var 0) (.cons (.var 1) .nil)))) (.cons (.asg false 2 (.call 2 (.cons (.var 0) (.cons (.var 1) .nil)))) (.cons (.ret (.ite (.cmp .in_ (.lst .nil) (.var 2)) (.mth .index (.var 2) (.cons (.lst .nil) .nil)) (.cst .non))) .nil))))⟩
def o_first_without : Orc := fun g ds => match g with | 0 => m_need_table ds | 1 => m_need_leading ds | 2 => m_ways_so ds | _ => M.stuck
def m_first_without : List D → M D := evF (kinW kinWs) o_first_without f_first_without
/-- count_for -/
def lb_count_for_0 : Sts := (.cons (.asg false 2 (.bin .mul (.var 2) (.blt .len (.cons (.var 3) .nil)))) .nil)
def tl_count_for_4 : Sts := .cons (.ret (.var 2)) .nil
def tl_count_for_3 : Sts := .cons (.for (.nm 3) (.val (.call 2 (.cons (.var 0) (.cons (.var 1) .nil)))) lb_count_for_0) tl_count_for_4
def tl_count_for_2 : Sts := .cons (.asg false 2 (.cst (.int 1))) tl_count_for_3
def tl_count_for_1 : Sts := .cons (.ex (.call 1 (.cons (.var 0) (.cons (.var 1) .nil)))) tl_count_for_2
def tl_count_for_0 : Sts := .cons (.ex (.call 0 (.cons (.var 0) .nil))) tl_count_for_1
def f_count_for : Fn := ⟨4, 2, tl_count_for_0⟩
def o_count_for : Orc := fun g ds => match g with | 0 => m_need_table ds | 1 => m_need_leading ds | 2 => m_ways_so ds | _ => M.stuck
def m_count_for : List D → M D := evF (kinW kinWs) o_count_for f_count_for
/-- fits_lead -/
def xe_fits_lead_0 : Ex := (.call 1 (.cons (.var 0) (.cons (.var 2) .nil)))
def f_fits_lead : Fn := ⟨3, 2, (.cons (.ret (.and (.call 0 (.cons (.var 1) (.cons (.cst (.int 1)) (.cons (.glb "LONGEST" (.int 24)) .nil)))) (.blt .all (.cons (.lc (.nm 2) (.val (.var 1)) xe_fits_lead_0) .nil)))) .nil)⟩
def o_fits_lead : Orc := fun g ds => match g with | 0 => m_is_tuple_of ds | 1 => m_fits_change ds | _ => M.stuck
def m_fits_lead : List D → M D := evF (kinW kinWs) o_fits_lead f_fits_lead
/-- need_lead -/
def f_need_lead : Fn := ⟨2, 2, (.cons (.ite (.not (.call 0 (.cons (.var 0) (.cons (.var 1) .nil)))) (.cons (.rse "InvalidLead") .nil) .nil) .nil)⟩
def o_need_lead : Orc := fun g ds => match g with | 0 => m_fits_lead ds | _ => M.stuck
def m_need_lead : List D → M D := evF (kinW kinWs) o_need_lead f_need_lead
/-- rows_by -/
def lb_rows_by_0 : Sts := (.cons (.asg false 0 (.call 0 (.cons (.var 0) (.cons (.var 3) .nil)))) (.cons (.asg false 2 (.bin .add (.var 2) (.lst (.cons (.var 0) .nil)))) .nil))
def f_rows_by : Fn := ⟨4, 2, (.cons (.asg false 2 (.lst .nil)) (.cons (.for (.nm 3) (.val (.var 1)) lb_rows_by_0) (.cons (.ret (.var 2)) .nil)))⟩
def o_rows_by : Orc := fun g ds => match g with | 0 => m_changed ds | _ => M.stuck
def m_rows_by : List D → M D := evF (kinW kinWs) o_rows_by f_rows_by
/-- acting -/
def f_acting : Fn := ⟨2, 2, (.cons (.ret (.idx (.call 0 (.cons (.call 1 (.cons (.var 0) .nil)) (.cons (.var 1) .nil))) (.neg (.cst (.int 1))))) .nil)⟩
def o_acting : Orc := fun g ds => match g with | 0 => m_rows_by ds | 1 => m_rounds_of ds | _ => M.stuck
def m_acting : List D → M D := evF (kinW kinWs) o_acting f_acting
/-- acting_row -/
def f_acting_row : Fn := ⟨2, 2, (.cons (.ex (.call 0 (.cons (.var 0) .nil))) (.cons (.ex (.call 1 (.cons (.var 0) (.cons (.var 1) .nil)))) (.cons (.ret (.call 2 (.cons (.var 0) (.cons (.var 1) .nil)))) .nil)))⟩
def o_acting_row : Orc := fun g ds => match g with | 0 => m_need_bells ds | 1 => m_need_lead ds | 2 => m_acting ds | _ => M.stuck
def m_acting_row : List D → M D := evF (kinW kinWs) o_acting_row f_acting_row
/-- fit_ways -/
def xe_fit_ways_0 : Ex := (.call 1 (.cons (.var 0) (.cons (.var 2) .nil)))
def f_fit_ways : Fn := ⟨3, 2, (.cons (.ret (.and (.call 0 (.cons (.var 1) (.cons (.cst (.int 1)) (.cons (.glb "WAYS_groups" (.int 6)) .nil)))) (.blt .all (.cons (.lc (.nm 2) (.val (.var 1)) xe_fit_ways_0) .nil)))) .nil)⟩
def o_fit_ways : Orc := fun g ds => match g with | 0 => m_is_tuple_of ds | 1 => m_fits_lead ds | _ => M.stuck
def m_fit_ways : List D → M D := evF (kinW kinWs) o_fit_ways f_fit_ways
/-- need_ways -/
def f_need_ways : Fn := ⟨2, 2, (.cons (.ite (.not (.call 0 (.cons (.var 0) (.cons (.var 1) .nil)))) (.cons (.rse "InvalidWays") .nil) .nil) .nil)⟩
def o_need_ways : Orc := fun g ds => match g with | 0 => m_fit_ways ds | _ => M.stuck
def m_need_ways : List D → M D := evF (kinW kinWs) o_need_ways f_need_ways
/-- roads_in -/
def xe_roads_in_0 : Ex := (.call 0 (.cons (.var 0) (.cons (.var 8) .nil)))
def wc_roads_in_0 : Ex := (.cmp .ne (.var 5) (.lst .nil))
def lb_roads_in_0 : Sts := (.cons (.asg false 11 (.call 2 (.cons (.var 7) (.cons (.var 10) .nil)))) (.cons (.ite (.cmp .notin (.var 11) (.var 4)) (.cons (.par [(4, false), (6, false)] (.cons (.dput (.var 4) (.var 11) (.bin .add (.idx (.var 4) (.var 7)) (.tup (.cons (.var 9) .nil)))) (.cons (.bin .add (.var 6) (.lst (.cons (.var 11) .nil))) .nil))) .nil) .nil) .nil))
def lb_roads_in_1 : Sts := (.cons (.for (.tp [(.nm 9), (.nm 10)]) (.enum (.var 2)) lb_roads_in_0) .nil)
def wb_roads_in_0 : Sts := (.cons (.asg false 6 (.lst .nil)) (.cons (.for (.nm 7) (.val (.var 5)) lb_roads_in_1) (.cons (.asg false 5 (.var 6)) .nil)))
def f_roads_in : Fn := ⟨12, 2, (.cons (.par [(2, false), (3, false)] (.cons (.lc (.nm 8) (.val (.var 1)) xe_roads_in_0) (.cons (.call 1 (.cons (.var 0) .nil)) .nil))) (.cons (.par [(4, false), (5, false)] (.cons (.done (.var 3) (.tup .nil)) (.cons (.lst (.cons (.var 3) .nil)) .nil))) (.cons (.whl 1000000 wc_roads_in_0 wb_roads_in_0) (.cons (.ret (.var 4)) .nil))))⟩
def o_roads_in : Orc := fun g ds => match g with | 0 => m_acting ds | 1 => m_rounds_of ds | 2 => m_acted ds | _ => M.stuck
def m_roads_in : List D → M D := evF (kinW kinWs) o_roads_in f_roads_in
/-- table_by -/
def xe_table_by_0 : Ex := (.call 0 (.cons (.var 0) (.cons (.var 5) .nil)))
def xe_table_by_1 : Ex := (.tup (.cons (.var 6) (.cons (.var 7) .nil)))
def xe_table_by_2 : Ex := (.idx (.var 2) (.call 2 (.cons (.var 6) (.cons (.var 8) .nil))))
def xe_table_by_3 : Ex := (.blt .tuple (.cons (.lc (.nm 8) (.val (.var 3)) xe_table_by_2) .nil))
def f_table_by : Fn := ⟨9, 2, (.cons (.par [(3, false), (4, false)] (.cons (.lc (.nm 5) (.val (.var 1)) xe_table_by_0) (.cons (.blt .sorted (.cons (.call 1 (.cons (.var 0) (.cons (.var 1) .nil))) .nil)) .nil))) (.cons (.asg false 2 (.blt .dict (.cons (.lc (.tp [(.nm 7), (.nm 6)]) (.enum (.var 4)) xe_table_by_1) .nil))) (.cons (.ret (.blt .tuple (.cons (.lc (.nm 6) (.val (.var 4)) xe_table_by_3) .nil))) .nil)))⟩
def o_table_by : Orc := fun g ds => match g with | 0 => m_acting ds | 1 => m_roads_in ds | 2 => m_acted ds | _ => M.stuck
def m_table_by : List D → M D := evF (kinW kinWs) o_table_by f_table_by
/-- group_of -/
def f_group_of : Fn := ⟨2, 2, (.cons (.ex (.call 0 (.cons (.var 0) .nil))) (.cons (.ex (.call 1 (.cons (.var 0) (.cons (.var 1) .nil)))) (.cons (.ret (.blt .tuple (.cons (.blt .sorted (.cons (.call 2 (.cons (.var 0) (.cons (.var 1) .nil))) .nil)) .nil))) .nil)))⟩
def o_group_of : Orc := fun g ds => match g with | 0 => m_need_bells ds | 1 => m_need_ways ds | 2 => m_roads_in ds | _ => M.stuck
def m_group_of : List D → M D := evF (kinW kinWs) o_group_of f_group_of
/-- number_of -/
def tl_number_of_4 : Sts := .cons (.ret (.ite (.cmp .in_ (.var 2) (.var 3)) (.mth .index (.var 3) (.cons (.var 2) .nil)) (.cst .non))) .nil
def tl_number_of_3 : Sts := .cons (.asg false 3 (.blt .sorted (.cons (.call 3 (.cons (.var 0) (.cons (.var 1) .nil))) .nil))) tl_number_of_4
def tl_number_of_2 : Sts := .cons (.ex (.call 2 (.cons (.var 2) (.cons (.var 0) (.cons (.var 0) .nil))))) tl_number_of_3
def tl_number_of_1 : Sts := .cons (.ex (.call 1 (.cons (.var 0) (.cons (.var 1) .nil)))) tl_number_of_2
def tl_number_of_0 : Sts := .cons (.ex (.call 0 (.cons (.var 0) .nil))) tl_number_of_1
def f_number_of : Fn := ⟨4, 3, tl_number_of_0⟩
def o_number_of : Orc := fun g ds => match g with | 0 => m_need_bells ds | 1 => m_need_ways ds | 2 => m_need_row ds | 3 => m_roads_in ds | _ => M.stuck
def m_number_of : List D → M D := evF (kinW kinWs) o_number_of f_number_of
/-- table_of -/
def f_table_of : Fn := ⟨2, 2, (.cons (.ex (.call 0 (.cons (.var 0) .nil))) (.cons (.ex (.call 1 (.cons (.var 0) (.cons (.var 1) .nil)))) (.cons (.ret (.call 2 (.cons (.var 0) (.cons (.var 1) .nil)))) .nil)))⟩
def o_table_of : Orc := fun g ds => match g with | 0 => m_need_bells ds | 1 => m_need_ways ds | 2 => m_table_by ds | _ => M.stuck
def m_table_of : List D → M D := evF (kinW kinWs) o_table_of f_table_of
/-- _law_cup -/
def f__law_cup : Fn := ⟨2, 1, (.cons (.asg false 1 (.blt .abs (.cons (.idx (.bin .add (.blt .list (.cons (.var 0) .nil)) (.lst (.cons (.cst (.int 0)) .nil))) (.cst (.int 0))) .nil))) (.cons (.ret (.cup (.ite (.cmp .ge (.var 1) (.bin .pow (.cst (.int 10)) (.cst (.int 18)))) (.bin .fdiv (.var 1) (.cst (.int 29))) (.cst (.int 0))) (.bin .add (.bin .mod (.blt .int (.cons (.bin .add (.bin .mul (.var 1) (.cst (.int 229))) (.cst (.int 1709))) .nil)) (.cst (.int 2077503719))) (.cst (.int 109))))) .nil))⟩
def o__law_cup : Orc := fun _ _ => M.stuck
def m__law_cup : List D → M D := evF (kinW kinWs) o__law_cup f__law_cup
/-- _law_roll -/
def f__law_roll : Fn := ⟨4, 2, (.cons (.ite (.cmp .gt (.idx (.var 0) (.cst (.int 0))) (.cst (.int 0))) (.cons (.asg false 3 (.bin .mod (.blt .int (.cons (.idx (.var 0) (.cst (.int 0))) .nil)) (.var 1))) (.cons (.cupS 0 0 (.bin .fdiv (.idx (.var 0) (.cst (.int 0))) (.var 1))) (.cons (.ret (.var 3)) .nil))) .nil) (.cons (.cupS 0 1 (.bin .mod (.blt .int (.cons (.bin .add (.bin .mul (.idx (.var 0) (.cst (.int 1))) (.cst (.int 30911))) (.cst (.int 7901))) .nil)) (.cst (.int 2147483423)))) (.cons (.asg false 2 (.bin .mod (.blt .int (.cons (.bin .mul (.idx (.var 0) (.cst (.int 1))) (.bin .add (.idx (.var 0) (.cst (.int 1))) (.cst (.int 179)))) .nil)) (.cst (.int 2147483587)))) (.cons (.ret (.bin .mod (.blt .int (.cons (.bin .fdiv (.var 2) (.cst (.int 751))) .nil)) (.var 1))) .nil))))⟩
def o__law_roll : Orc := fun _ _ => M.stuck
def m__law_roll : List D → M D := evF (kinW kinWs) o__law_roll f__law_roll
/-- _law_some -/
def f__law_some : Fn := ⟨2, 2, (.cons (.ret (.idx (.var 1) (.call 0 (.cons (.var 0) (.cons (.blt .len (.cons (.var 1) .nil)) .nil))))) .nil)⟩
def o__law_some : Orc := fun g ds => match g with | 0 => m__law_roll ds | _ => M.stuck
def m__law_some : List D → M D := evF (kinW kinWs) o__law_some f__law_some
/-- _law_changes -/
def xc__law_changes_0 : Ex := (.or (.cmp .eq (.var 3) (.tup .nil)) (.cmp .lt (.idx (.var 3) (.neg (.cst (.int 1)))) (.bin .sub (.var 2) (.cst (.int 1)))))
def xe__law_changes_0 : Ex := (.bin .add (.var 3) (.tup (.cons (.var 2) .nil)))
def lb__law_changes_0 : Sts := (.cons (.asg false 1 (.bin .add (.var 1) (.lcif (.nm 3) (.val (.var 1)) xc__law_changes_0 xe__law_changes_0))) .nil)
def f__law_changes : Fn := ⟨4, 1, (.cons (.asg false 1 (.lst (.cons (.tup .nil) .nil))) (.cons (.for (.nm 2) (.rng1 (.bin .sub (.var 0) (.cst (.int 1)))) lb__law_changes_0) (.cons (.ret (.blt .sorted (.cons (.var 1) .nil))) .nil)))⟩
def o__law_changes : Orc := fun _ _ => M.stuck
def m__law_changes : List D → M D := evF (kinW kinWs) o__law_changes f__law_changes
/-- _law_change -/
def f__law_change : Fn := ⟨3, 2, (.cons (.asg false 2 (.call 0 (.cons (.var 1) .nil))) (.cons (.ret (.call 1 (.cons (.var 0) (.cons (.bin .add (.bin .mul (.sl (.var 2) (.some (.cst (.int 1))) .no) (.cst (.int 3))) (.var 2)) .nil)))) .nil))⟩
def o__law_change : Orc := fun g ds => match g with | 0 => m__law_changes ds | 1 => m__law_some ds | _ => M.stuck
def m__law_change : List D → M D := evF (kinW kinWs) o__law_change f__law_change
/-- _law_lead -/
def xe__law_lead_0 : Ex := (.call 1 (.cons (.var 0) (.cons (.var 1) .nil)))
def f__law_lead : Fn := ⟨4, 3, (.cons (.ret (.blt .tuple (.cons (.lc (.nm 3) (.rng1 (.bin .add (.cst (.int 1)) (.call 0 (.cons (.var 0) (.cons (.var 2) .nil))))) xe__law_lead_0) .nil))) .nil)⟩
def o__law_lead : Orc := fun g ds => match g with | 0 => m__law_roll ds | 1 => m__law_change ds | _ => M.stuck
def m__law_lead : List D → M D := evF (kinW kinWs) o__law_lead f__law_lead
/-- _law_few -/
def xe__law_few_0 : Ex := (.call 0 (.cons (.var 0) (.cons (.var 2) .nil)))
def xe__law_few_1 : Ex := (.call 2 (.cons (.var 0) (.cons (.var 1) (.cons (.cst (.int 3)) .nil))))
def f__law_few : Fn := ⟨4, 1, (.cons (.asg false 1 (.call 0 (.cons (.var 0) (.cons (.lst (.cons (.cst (.int 2)) (.cons (.cst (.int 3)) (.cons (.cst (.int 3)) (.cons (.cst (.int 3)) (.cons (.cst (.int 4)) (.cons (.cst (.int 4)) (.cons (.cst (.int 4)) (.cons (.cst (.int 5)) (.cons (.cst (.int 6)) .nil)))))))))) .nil)))) (.cons (.ite (.cmp .gt (.var 1) (.cst (.int 4))) (.cons (.asg false 2 (.lst (.cons (.tup (.cons (.tup (.cons (.cst (.int 0)) (.cons (.cst (.int 2)) .nil))) .nil)) (.cons (.tup (.cons (.tup (.cons (.cst (.int 1)) (.cons (.cst (.int 3)) .nil))) .nil)) (.cons (.tup (.cons (.tup (.cons (.cst (.int 0)) (.cons (.cst (.int 2)) .nil))) (.cons (.tup (.cons (.cst (.int 1)) (.cons (.cst (.int 3)) .nil))) .nil))) (.cons (.tup (.cons (.tup (.cons (.cst (.int 1)) (.cons (.cst (.int 3)) .nil))) (.cons (.tup (.cons (.cst (.int 0)) (.cons (.cst (.int 2)) .nil))) .nil))) (.cons (.tup (.cons (.tup .nil) .nil)) (.cons (.tup (.cons (.tup (.cons (.cst (.int 0)) (.cons (.cst (.int 2)) .nil))) (.cons (.tup (.cons (.cst (.int 1)) (.cons (.cst (.int 3)) .nil))) (.cons (.tup (.cons (.cst (.int 0)) (.cons (.cst (.int 2)) .nil))) .nil)))) .nil)))))))) (.cons (.ite (.cmp .eq (.var 1) (.cst (.int 6))) (.cons (.asg false 2 (.lst (.cons (.tup (.cons (.tup (.cons (.cst (.int 0)) (.cons (.cst (.int 2)) (.cons (.cst (.int 4)) .nil)))) .nil)) (.cons (.tup (.cons (.tup (.cons (.cst (.int 1)) (.cons (.cst (.int 3)) .nil))) .nil)) (.cons (.tup (.cons (.tup (.cons (.cst (.int 0)) (.cons (.cst (.int 2)) (.cons (.cst (.int 4)) .nil)))) (.cons (.tup (.cons (.cst (.int 1)) (.cons (.cst (.int 3)) .nil))) .nil))) (.cons (.tup (.cons (.tup .nil) .nil)) (.cons (.tup (.cons (.tup (.cons (.cst (.int 1)) (.cons (.cst (.int 3)) .nil))) (.cons (.tup (.cons (.cst (.int 0)) (.cons (.cst (.int 2)) (.cons (.cst (.int 4)) .nil)))) (.cons (.tup (.cons (.cst (.int 1)) (.cons (.cst (.int 3)) .nil))) .nil)))) .nil))))))) .nil) .nil) (.cons (.ret (.tup (.cons (.var 1) (.cons (.blt .tuple (.cons (.lc (.nm 3) (.rng1 (.bin .add (.cst (.int 1)) (.call 1 (.cons (.var 0) (.cons (.cst (.int 3)) .nil))))) xe__law_few_0) .nil)) .nil)))) .nil))) .nil) (.cons (.ret (.tup (.cons (.var 1) (.cons (.blt .tuple (.cons (.lc (.nm 3) (.rng1 (.bin .add (.cst (.int 1)) (.call 1 (.cons (.var 0) (.cons (.cst (.int 4)) .nil))))) xe__law_few_1) .nil)) .nil)))) .nil)))⟩
def o__law_few : Orc := fun g ds => match g with | 0 => m__law_some ds | 1 => m__law_roll ds | 2 => m__law_lead ds | _ => M.stuck
def m__law_few : List D → M D := evF (kinW kinWs) o__law_few f__law_few
/-- _law_power -/
def lb__law_power_0 : Sts := (.cons (.asg false 2 (.bin .mul (.var 2) (.var 0))) .nil)
def f__law_power : Fn := ⟨4, 2, (.cons (.asg false 2 (.cst (.int 1))) (.cons (.for (.nm 3) (.rng1 (.var 1)) lb__law_power_0) (.cons (.ret (.var 2)) .nil)))⟩
def o__law_power : Orc := fun _ _ => M.stuck
def m__law_power : List D → M D := evF (kinW kinWs) o__law_power f__law_power
/-- _law_same_right -/
def xe__law_same_right_0 : Ex := (.call 0 (.cons (.var 0) (.cons (.var 8) .nil)))
def xe__law_same_right_1 : Ex := (.idx (.var 9) (.var 3))
def xc__law_same_right_0 : Ex := (.cmp .eq (.var 11) (.idx (.var 4) (.var 3)))
def xe__law_same_right_2 : Ex := (.var 10)
def tl__law_same_right_5 : Sts := .cons (.ret (.and (.cmp .is (.call 4 (.cons (.var 2) (.cons (.var 5) .nil))) (.cst .non)) (.cmp .eq (.call 5 (.cons (.var 2) (.cons (.var 7) .nil))) (.var 5)))) .nil
def tl__law_same_right_4 : Sts := .cons (.ite (.or (.cmp .ne (.var 7) (.bin .mul (.tup (.cons (.idx (.var 6) (.cst (.int 0))) .nil)) (.blt .len (.cons (.var 2) .nil)))) (.cmp .ne (.call 2 (.cons (.var 2) (.cons (.var 5) .nil))) (.call 3 (.cons (.blt .len (.cons (.var 6) .nil)) (.cons (.blt .len (.cons (.var 2) .nil)) .nil))))) (.cons (.ret (.cst (.bl false))) .nil) .nil) tl__law_same_right_5
def tl__law_same_right_3 : Sts := .cons (.asg false 7 (.call 1 (.cons (.var 2) (.cons (.var 5) .nil)))) tl__law_same_right_4
def tl__law_same_right_2 : Sts := .cons (.asg false 6 (.lcif (.tp [(.nm 10), (.nm 11)]) (.enum (.var 4)) xc__law_same_right_0 xe__law_same_right_2)) tl__law_same_right_3
def tl__law_same_right_1 : Sts := .cons (.asg false 5 (.blt .tuple (.cons (.lc (.nm 9) (.val (.var 2)) xe__law_same_right_1) .nil))) tl__law_same_right_2
def tl__law_same_right_0 : Sts := .cons (.asg false 4 (.lc (.nm 8) (.val (.var 1)) xe__law_same_right_0)) tl__law_same_right_1
def f__law_same_right : Fn := ⟨12, 4, tl__law_same_right_0⟩
def o__law_same_right : Orc := fun g ds => match g with | 0 => m_acting_row ds | 1 => m_choice_for ds | 2 => m_count_for ds | 3 => m__law_power ds | 4 => m_first_without ds | 5 => m_next_ones ds | _ => M.stuck
def m__law_same_right : List D → M D := evF (kinW kinWs) o__law_same_right f__law_same_right
/-- _law_by_quotients -/
def xe__law_by_quotients_0 : Ex := (.call 0 (.cons (.var 0) (.cons (.var 12) .nil)))
def xe__law_by_quotients_1 : Ex := (.mth .index (.var 3) (.cons (.var 11) .nil))
def xe__law_by_quotients_2 : Ex := (.call 2 (.cons (.call 3 (.cons (.var 11) .nil)) (.cons (.var 13) .nil)))
def xc__law_by_quotients_0 : Ex := (.cmp .notin (.var 11) (.var 5))
def xe__law_by_quotients_3 : Ex := (.var 14)
def xe__law_by_quotients_4 : Ex := (.mth .index (.var 5) (.cons (.var 11) .nil))
def lb__law_by_quotients_0 : Sts := (.cons (.asg false 10 (.bin .mul (.var 10) (.mth .count (.var 5) (.cons (.var 11) .nil)))) .nil)
def tl__law_by_quotients_9 : Sts := .cons (.ret (.and (.cmp .eq (.call 5 (.cons (.var 2) (.cons (.var 6) .nil))) (.var 9)) (.cmp .eq (.call 6 (.cons (.var 2) (.cons (.var 6) .nil))) (.var 10)))) .nil
def tl__law_by_quotients_8 : Sts := .cons (.for (.nm 11) (.val (.var 7)) lb__law_by_quotients_0) tl__law_by_quotients_9
def tl__law_by_quotients_7 : Sts := .cons (.asg false 10 (.cst (.int 1))) tl__law_by_quotients_8
def tl__law_by_quotients_6 : Sts := .cons (.asg false 9 (.ite (.cmp .eq (.var 8) (.lst .nil)) (.blt .tuple (.cons (.lc (.nm 11) (.val (.var 7)) xe__law_by_quotients_4) .nil)) (.cst .non))) tl__law_by_quotients_7
def tl__law_by_quotients_5 : Sts := .cons (.ite (.cmp .ne (.call 4 (.cons (.var 2) (.cons (.var 6) .nil))) (.ite (.cmp .ne (.var 8) (.lst .nil)) (.idx (.var 8) (.cst (.int 0))) (.cst .non))) (.cons (.ret (.cst (.bl false))) .nil) .nil) tl__law_by_quotients_6
def tl__law_by_quotients_4 : Sts := .cons (.asg false 8 (.lcif (.tp [(.nm 14), (.nm 11)]) (.enum (.var 7)) xc__law_by_quotients_0 xe__law_by_quotients_3)) tl__law_by_quotients_5
def tl__law_by_quotients_3 : Sts := .cons (.asg false 7 (.lc (.tp [(.nm 11), (.nm 13)]) (.zip (.var 3) (.var 4)) xe__law_by_quotients_2)) tl__law_by_quotients_4
def tl__law_by_quotients_2 : Sts := .cons (.ite (.cmp .ne (.call 1 (.cons (.var 0) (.cons (.var 1) (.cons (.idx (.var 4) (.cst (.int 0))) .nil)))) (.idx (.var 6) (.cst (.int 0)))) (.cons (.ret (.cst (.bl false))) .nil) .nil) tl__law_by_quotients_3
def tl__law_by_quotients_1 : Sts := .cons (.asg false 6 (.blt .tuple (.cons (.lc (.nm 11) (.val (.var 4)) xe__law_by_quotients_1) .nil))) tl__law_by_quotients_2
def tl__law_by_quotients_0 : Sts := .cons (.asg false 5 (.lc (.nm 12) (.val (.var 1)) xe__law_by_quotients_0)) tl__law_by_quotients_1
def f__law_by_quotients : Fn := ⟨15, 5, tl__law_by_quotients_0⟩
def o__law_by_quotients : Orc := fun g ds => match g with | 0 => m_acting_row ds | 1 => m_number_of ds | 2 => m_followed_by ds | 3 => m_row_undone ds | 4 => m_first_without ds | 5 => m_choice_for ds | 6 => m_count_for ds | _ => M.stuck
def m__law_by_quotients : List D → M D := evF (kinW kinWs) o__law_by_quotients f__law_by_quotients
/-- _law_right -/
def xe__law_right_0 : Ex := (.call 6 (.cons (.var 11) (.cons (.var 3) .nil)))
def xe__law_right_1 : Ex := (.call 6 (.cons (.var 10) (.cons (.var 11) .nil)))
def xe__law_right_2 : Ex := (.call 6 (.cons (.var 11) (.cons (.call 4 (.cons (.var 1) (.cons (.idx (.var 2) (.var 9)) .nil))) .nil)))
def tl__law_right_8 : Sts := .cons (.ret (.and (.call 7 (.cons (.var 1) (.cons (.var 2) (.cons (.var 7) (.cons (.var 8) (.cons (.var 6) .nil)))))) (.call 7 (.cons (.var 1) (.cons (.var 2) (.cons (.var 7) (.cons (.var 8) (.cons (.blt .list (.cons (.var 8) .nil)) .nil)))))))) .nil
def tl__law_right_7 : Sts := .cons (.asg false 6 (.lc (.nm 11) (.val (.var 5)) xe__law_right_2)) tl__law_right_8
def tl__law_right_6 : Sts := .cons (.ite (.or (.not (.call 7 (.cons (.var 1) (.cons (.var 2) (.cons (.var 7) (.cons (.var 8) (.cons (.var 4) .nil))))))) (.not (.call 7 (.cons (.var 1) (.cons (.var 2) (.cons (.var 7) (.cons (.var 8) (.cons (.var 5) .nil)))))))) (.cons (.ret (.cst (.bl false))) .nil) .nil) tl__law_right_7
def tl__law_right_5 : Sts := .cons (.asg false 5 (.lc (.nm 11) (.val (.var 8)) xe__law_right_1)) tl__law_right_6
def tl__law_right_4 : Sts := .cons (.asg false 4 (.lc (.nm 11) (.val (.var 8)) xe__law_right_0)) tl__law_right_5
def tl__law_right_3 : Sts := .cons (.ite (.not (.call 5 (.cons (.var 1) (.cons (.var 2) (.cons (.var 7) (.cons (.var 9) .nil)))))) (.cons (.ret (.cst (.bl false))) .nil) .nil) tl__law_right_4
def tl__law_right_2 : Sts := .cons (.asg false 3 (.call 3 (.cons (.call 4 (.cons (.var 1) (.cons (.idx (.var 2) (.var 9)) .nil))) .nil))) tl__law_right_3
def tl__law_right_1 : Sts := .cons (.par [(9, false), (10, false)] (.cons (.call 2 (.cons (.var 0) (.cons (.blt .len (.cons (.var 2) .nil)) .nil))) (.cons (.idx (.var 8) (.call 2 (.cons (.var 0) (.cons (.blt .len (.cons (.var 8) .nil)) .nil)))) .nil))) tl__law_right_2
def tl__law_right_0 : Sts := .cons (.par [(7, false), (8, false)] (.cons (.call 0 (.cons (.var 1) (.cons (.var 2) .nil))) (.cons (.call 1 (.cons (.var 1) (.cons (.var 2) .nil))) .nil))) tl__law_right_1
def f__law_right : Fn := ⟨12, 3, tl__law_right_0⟩
def o__law_right : Orc := fun g ds => match g with | 0 => m_table_of ds | 1 => m_group_of ds | 2 => m__law_roll ds | 3 => m_row_undone ds | 4 => m_acting_row ds | 5 => m__law_same_right ds | 6 => m_followed_by ds | 7 => m__law_by_quotients ds | _ => M.stuck
def m__law_right : List D → M D := evF (kinW kinWs) o__law_right f__law_right
/-- law -/
def lb_law_0 : Sts := (.cons (.unp (.tp [(.nm 6), (.nm 7)]) (.call 1 (.cons (.var 1) .nil))) (.cons (.ite (.not (.call 2 (.cons (.var 1) (.cons (.var 6) (.cons (.var 7) .nil))))) (.cons (.ret (.cst (.bl false))) .nil) .nil) .nil))
def tl_law_7 : Sts := .cons (.ret (.and (.call 2 (.cons (.var 1) (.cons (.cst (.int 3)) (.cons (.var 3) .nil)))) (.and (.call 2 (.cons (.var 1) (.cons (.cst (.int 2)) (.cons (.var 5) .nil)))) (.call 2 (.cons (.var 1) (.cons (.cst (.int 4)) (.cons (.tup (.cons (.tup (.cons (.tup (.cons (.cst (.int 0)) (.cons (.cst (.int 2)) .nil))) .nil)) (.cons (.tup (.cons (.tup (.cons (.cst (.int 1)) .nil)) .nil)) (.cons (.tup (.cons (.tup (.cons (.cst (.int 0)) (.cons (.cst (.int 2)) .nil))) (.cons (.tup (.cons (.cst (.int 1)) .nil)) .nil))) .nil)))) .nil))))))) .nil
def tl_law_6 : Sts := .cons (.ite (.or (.cmp .ne (.call 6 (.cons (.call 3 (.cons (.cst (.int 2)) (.cons (.var 5) .nil))) (.cons (.tup (.cons (.cst (.int 1)) (.cons (.cst (.int 0)) .nil))) .nil))) (.cst (.int 4))) (.cmp .ne (.call 4 (.cons (.call 3 (.cons (.cst (.int 2)) (.cons (.var 5) .nil))) (.cons (.tup (.cons (.cst (.int 0)) (.cons (.cst (.int 1)) .nil))) .nil))) (.tup (.cons (.cst (.int 2)) (.cons (.cst (.int 2)) .nil))))) (.cons (.ret (.cst (.bl false))) .nil) .nil) tl_law_7
def tl_law_5 : Sts := .cons (.asg false 5 (.tup (.cons (.tup (.cons (.tup (.cons (.cst (.int 0)) .nil)) .nil)) (.cons (.tup (.cons (.tup (.cons (.cst (.int 0)) .nil)) .nil)) (.cons (.tup (.cons (.tup .nil) .nil)) .nil))))) tl_law_6
def tl_law_4 : Sts := .cons (.ite (.or (.cmp .ne (.call 4 (.cons (.var 4) (.cons (.tup (.cons (.cst (.int 2)) (.cons (.cst (.int 4)) (.cons (.cst (.int 0)) (.cons (.cst (.int 5)) (.cons (.cst (.int 1)) (.cons (.cst (.int 3)) .nil))))))) .nil))) (.bin .mul (.tup (.cons (.cst (.int 0)) .nil)) (.cst (.int 6)))) (.or (.cmp .ne (.call 5 (.cons (.var 4) (.cons (.tup (.cons (.cst (.int 0)) (.cons (.cst (.int 1)) (.cons (.cst (.int 2)) (.cons (.cst (.int 3)) (.cons (.cst (.int 4)) (.cons (.cst (.int 5)) .nil))))))) .nil))) (.cst (.int 0))) (.cmp .isnot (.call 4 (.cons (.var 4) (.cons (.tup (.cons (.cst (.int 5)) (.cons (.cst (.int 3)) (.cons (.cst (.int 4)) (.cons (.cst (.int 1)) (.cons (.cst (.int 2)) (.cons (.cst (.int 0)) .nil))))))) .nil))) (.cst .non)))) (.cons (.ret (.cst (.bl false))) .nil) .nil) tl_law_5
def tl_law_3 : Sts := .cons (.asg false 4 (.call 3 (.cons (.cst (.int 3)) (.cons (.var 3) .nil)))) tl_law_4
def tl_law_2 : Sts := .cons (.asg false 3 (.tup (.cons (.tup (.cons (.tup (.cons (.cst (.int 0)) .nil)) .nil)) (.cons (.tup (.cons (.tup (.cons (.cst (.int 1)) .nil)) .nil)) .nil)))) tl_law_3
def tl_law_1 : Sts := .cons (.for (.nm 2) (.rng1 (.cst (.int 3))) lb_law_0) tl_law_2
def tl_law_0 : Sts := .cons (.asg false 1 (.call 0 (.cons (.var 0) .nil))) tl_law_1
def f_law : Fn := ⟨8, 1, tl_law_0⟩
def o_law : Orc := fun g ds => match g with | 0 => m__law_cup ds | 1 => m__law_few ds | 2 => m__law_right ds | 3 => m_table_of ds | 4 => m_choice_for ds | 5 => m_first_without ds | 6 => m_count_for ds | _ => M.stuck
def m_law : List D → M D := evF (kinW kinWs) o_law f_law
end PF.K93
end

/-! ## K93a -/
section
/-! K93a: what the defs compute: rows, changes, leads. -/
set_option linter.all false
set_option autoImplicit false
set_option maxRecDepth 100000
namespace PF.K93
open PySem PF
theorem w_is_whole (i lo hi : Int) (c : Cup) : m_is_whole [.int i, .int lo, .int hi] c = .ok (.bl (decide (lo ≤ i) && decide (i ≤ hi))) c := by
  by_cases h : lo ≤ i <;> simp [m_is_whole, evF_eq, f_is_whole, start, ty?, h]
theorem w_is_whole_bl (b : Bool) (lo hi : Int) (c : Cup) : m_is_whole [.bl b, .int lo, .int hi] c = .ok (.bl false) c := by
  simp [m_is_whole, evF_eq, f_is_whole, start, ty?]
theorem w_is_whole_non (lo hi : Int) (c : Cup) : m_is_whole [.non, .int lo, .int hi] c = .ok (.bl false) c := by
  simp [m_is_whole, evF_eq, f_is_whole, start, ty?]
theorem w_is_whole_str (s : Str) (lo hi : Int) (c : Cup) : m_is_whole [.str s, .int lo, .int hi] c = .ok (.bl false) c := by
  simp [m_is_whole, evF_eq, f_is_whole, start, ty?]
theorem w_is_tuple_of (xs : List D) (lo hi : Int) (c : Cup) : m_is_tuple_of [.tup xs, .int lo, .int hi] c = .ok (.bl (decide (lo ≤ xs.length) && decide ((xs.length : Int) ≤ hi))) c := by
  by_cases h : lo ≤ xs.length <;> simp [m_is_tuple_of, evF_eq, f_is_tuple_of, start, ty?, h]
theorem w_is_tuple_of_lst (xs : List D) (lo hi : Int) (c : Cup) : m_is_tuple_of [.lst xs, .int lo, .int hi] c = .ok (.bl false) c := by
  simp [m_is_tuple_of, evF_eq, f_is_tuple_of, start, ty?]
theorem w_is_tuple_of_non (lo hi : Int) (c : Cup) : m_is_tuple_of [.non, .int lo, .int hi] c = .ok (.bl false) c := by
  simp [m_is_tuple_of, evF_eq, f_is_tuple_of, start, ty?]
theorem w_rounds_of {b : Nat} (h : b ≤ 1000) (c : Cup) : m_rounds_of [nD b] c = .ok (tN (List.range b)) c := by
  have hr : rngOk 0 (b : Int) = true := rngOk_of (by omega)
  simp [m_rounds_of, evF_eq, f_rounds_of, start, nD, hr, tN]
  have e := rangeD_nat b
  unfold nD at e
  exact e
theorem w_changed_loop (d : D) : ∀ (ch r : List Nat) (x : Option Sl) (c : Cup), (∀ p ∈ ch, p + 1 < r.length) → r.length ≤ 1000 →
    ∃ y, forGo (.nm 2) (evSs (kinW kinWs) o_changed lb_changed_0) (ch.map nD) [some (.sh (tN r)), some (.sh d), x] c = .ok (.nx [some (.sh (tN (sw r ch))), some (.sh d), y]) c
  | [], r, x, c, _, _ => ⟨x, rfl⟩
  | p :: ch, r, x, c, h, hl => by
    have h1 := h p List.mem_cons_self
    have h0 : p < r.length := by omega
    obtain ⟨y, hy⟩ := w_changed_loop d ch (sw1 r p) (some (.sh (nD p))) c (fun q hq => by rw [sw1_length h1]; exact h q (List.mem_cons_of_mem _ hq)) (by rw [sw1_length h1]; exact hl)
    refine ⟨y, ?_⟩
    have e1 : opB .add (.tup (List.map nD (r.take p))) (.tup [nD r[p + 1], nD r[p]]) = some (.tup (List.map nD (r.take p) ++ [nD r[p + 1], nD r[p]])) := addT_ok (by simp; omega)
    have e2 : opB .add (.tup (List.map nD (r.take p) ++ [nD r[p + 1], nD r[p]])) (.tup (List.map nD (r.drop (p + 2)))) = some (.tup ((List.map nD (r.take p) ++ [nD r[p + 1], nD r[p]]) ++ List.map nD (r.drop (p + 2)))) := addT_ok (by simp; omega)
    have e3 : tN (sw1 r p) = .tup ((List.map nD (r.take p) ++ [nD r[p + 1], nD r[p]]) ++ List.map nD (r.drop (p + 2))) := by
      unfold tN sw1
      simp [List.getElem?_eq_getElem h1, List.getElem?_eq_getElem h0]
    rw [List.map_cons, sw_cons, ← hy]
    refine for_step rfl ?_
    simp only [show nD p = .int (p : Int) from rfl, setS]
    simp [lb_changed_0, setS, tN, h1, h0, e1, e2, -List.map_take, -List.map_drop, List.map_take.symm, List.map_drop.symm]
    simpa [tN] using e3.symm
theorem w_changed {r ch : List Nat} (h : ∀ p ∈ ch, p + 1 < r.length) (hl : r.length ≤ 1000) (c : Cup) : m_changed [tN r, tN ch] c = .ok (tN (sw r ch)) c := by
  obtain ⟨y, hy⟩ := w_changed_loop (tN ch) ch r none c h hl
  unfold m_changed
  rw [evF_eq _ _ rfl]
  simp [f_changed, start, show tN ch = .tup (ch.map nD) from rfl]
  rw [show D.tup (ch.map nD) = tN ch from rfl, hy]
  simp
theorem zip_gap : ∀ (ch : List Nat), List.Pairwise (fun p q => p + 1 < q) ch → (zipD (ch.map nD) ((ch.map nD).drop 1)).all (fun d => match d with
    | .tup [.int i, .int j] => decide (i + 1 < j)
    | _ => false) = true
  | [], _ => rfl
  | [p], _ => rfl
  | p :: q :: ch, h => by
    have ih := zip_gap (q :: ch) (List.Pairwise.tail h)
    have h1 : p + 1 < q := (List.pairwise_cons.mp h).1 q List.mem_cons_self
    simp only [List.map_cons, List.drop_succ_cons, List.drop_zero, zipD, List.all_cons, nD] at ih ⊢
    rw [Bool.and_eq_true]
    exact ⟨decide_eq_true (by omega), ih⟩
theorem w_fits_change {b : Nat} {ch : List Nat} (h : fitsCh b ch) (hl : ch.length ≤ 1000) (c : Cup) : m_fits_change [nD b, tN ch] c = .ok (.bl true) c := by
  unfold m_fits_change
  rw [evF_eq _ _ rfl]
  simp [f_fits_change, start, tN, ty?]
  rw [mapGo_mapT nD (fun _ => D.bl true) ch]
  · simp [all_true]
    rw [← List.map_tail, zipD_map nD nD, mapGo_mapT (fun q : Nat × Nat => D.tup [nD q.1, nD q.2]) (fun _ => D.bl true) (ch.zip ch.tail)]
    · simp [all_true]
    · intro q hq
      have := gap_zip h.2 q hq
      simp [setS, xe_fits_change_1, nD]
      omega
    · simp; omega
  · intro p hp
    have := h.1 p hp
    simp [setS, xe_fits_change_0, o_fits_change, nD, w_is_whole]
    omega
  · omega
theorem w_fits_lead {b : Nat} {l : List (List Nat)} (h : okLead b l) (hl : l.length ≤ 1000) (hc : ∀ ch ∈ l, ch.length ≤ 1000) (c : Cup) : m_fits_lead [nD b, tL l] c = .ok (.bl (decide (1 ≤ l.length) && decide (l.length ≤ 24))) c := by
  unfold m_fits_lead
  rw [evF_eq _ _ rfl]
  simp [f_fits_lead, start, tL, o_fits_lead, w_is_tuple_of]
  by_cases h1 : 1 ≤ l.length ∧ l.length ≤ 24
  · rw [mapGo_mapT tN (fun _ => D.bl true) l]
    · have h3 : (1 : Int) ≤ l.length := by omega
      have h4 : (l.length : Int) ≤ 24 := by omega
      simp [all_true, h1, h3, h4]
    · intro ch hch
      simp [setS, xe_fits_lead_0, o_fits_lead, w_fits_change (h ch hch) (hc ch hch)]
    · omega
  · by_cases h2 : 1 ≤ l.length
    · have h3 : ¬ l.length ≤ 24 := fun z => h1 ⟨h2, z⟩
      have h4 : ¬ ((l.length : Int) ≤ 24) := by omega
      simp [h2, h3, h4]
    · have h4 : ¬ ((1 : Int) ≤ l.length) := by omega
      simp [h2, h4]
theorem w_rows_by_loop (d : D) (b : Nat) (hb : b ≤ 1000) : ∀ (l : List (List Nat)) (r : List Nat) (acc : List (List Nat)) (x : Option Sl) (c : Cup), okLead b l → r.length = b → acc.length + l.length ≤ 100000 →
    ∃ y, forGo (.nm 3) (evSs (kinW kinWs) o_rows_by lb_rows_by_0) (l.map tN) [some (.sh (tN r)), some (.sh d), some (.sh (lR acc)), x] c = .ok (.nx [some (.sh (tN (leadTo r l))), some (.sh d), some (.sh (lR (acc ++ rowsBy r l))), y]) c
  | [], r, acc, x, c, _, _, _ => ⟨x, by simp [rowsBy, leadTo]⟩
  | ch :: l, r, acc, x, c, ok, hr, hl => by
    simp only [List.length_cons] at hl
    have h1 : ∀ p ∈ ch, p + 1 < r.length := fun p hp => by rw [hr]; exact (ok ch List.mem_cons_self).1 p hp
    obtain ⟨y, hy⟩ := w_rows_by_loop d b hb l (sw r ch) (acc ++ [sw r ch]) (some (.sh (tN ch))) c (fun z hz => ok z (List.mem_cons_of_mem _ hz)) (by rw [sw_length h1, hr]) (by simp; omega)
    refine ⟨y, ?_⟩
    have e : opB .add (.lst (List.map tN acc)) (.lst [tN (sw r ch)]) = some (.lst (List.map tN acc ++ [tN (sw r ch)])) := addL_ok (by simp; omega)
    rw [List.map_cons]
    rw [for_step rfl (ρ2 := [some (.sh (tN (sw r ch))), some (.sh d), some (.sh (lR (acc ++ [sw r ch]))), some (.sh (tN ch))]) (c2 := c) ?_]
    · rw [hy]
      simp [rowsBy, leadTo]
    · simp [lb_rows_by_0, setS, o_rows_by, w_changed h1 (by omega), lR, e]
theorem w_rows_by {b : Nat} {l : List (List Nat)} {r : List Nat} (ok : okLead b l) (hr : r.length = b) (hb : b ≤ 1000) (hl : l.length ≤ 1000) (c : Cup) : m_rows_by [tN r, tL l] c = .ok (lR (rowsBy r l)) c := by
  obtain ⟨y, hy⟩ := w_rows_by_loop (tL l) b hb l r [] none c ok hr (by simp; omega)
  unfold m_rows_by
  rw [evF_eq _ _ rfl]
  simp [f_rows_by, start, show tL l = .tup (l.map tN) from rfl, setS]
  rw [show D.tup (l.map tN) = tL l from rfl, show D.lst [] = lR [] from rfl, hy]
  simp
end PF.K93
end

/-! ## K93b -/
section
/-! K93b: what the defs compute: tours. -/
set_option linter.all false
set_option autoImplicit false
set_option maxRecDepth 100000
namespace PF.K93
open PySem PF
theorem tL_fold (l : List (List Nat)) : D.tup (l.map tN) = tL l := rfl
theorem lR_fold (l : List (List Nat)) : D.lst (l.map tN) = lR l := rfl
theorem tN_fold (l : List Nat) : D.tup (l.map nD) = tN l := rfl
end PF.K93
end

/-! ## K93c -/
section
/-! K93c: what the law's defs compute. -/
set_option linter.all false
set_option autoImplicit false
set_option maxRecDepth 100000
namespace PF.K93
open PySem PF
theorem w_roll {many : Nat} (h0 : 0 < many) (h1 : many ≤ 1000000) : Draws (m__law_roll [.cup, nD many]) fun d => ∃ r, r < many ∧ d = nD r := by
  intro c hc
  match c, hc with
  | some (x, y), ⟨hx, hy, hy2⟩ =>
  by_cases hp : 0 < x
  · obtain ⟨r, hr, e⟩ := fmod_nat x h0
    have e2 : opB .fdiv (.int x) (.int (many : Int)) = some (.int (x.fdiv many)) := fdiv_ok ⟨by omega, by omega⟩
    have hm : ¬ many = 0 := by omega
    refine ⟨nD r, some (x.fdiv many, y), ?_, ⟨r, hr, rfl⟩, fdiv_nonneg hx (by omega), hy, hy2⟩
    unfold m__law_roll
    rw [evF_eq _ _ rfl]
    simp [f__law_roll, start, hp, setS, nD, hm, e2, e]
  · have hx0 : x = 0 := by omega
    subst hx0
    obtain ⟨b1, b2⟩ := fmod_bounds (y * 30911 + 7901) (show (0 : Int) < 2147483423 by decide)
    generalize hz : (y * 30911 + 7901).fmod 2147483423 = z at b1 b2
    obtain ⟨b3, b4⟩ := fmod_bounds (z * (z + 179)) (show (0 : Int) < 2147483587 by decide)
    generalize hu : (z * (z + 179)).fmod 2147483587 = u at b3 b4
    obtain ⟨r, hr, e⟩ := fmod_nat (u.fdiv 751) h0
    have hm : ¬ many = 0 := by omega
    have e1 : opB .mul (.int y) (.int 30911) = some (.int (y * 30911)) := mul_ok (.inr (by decide))
    have e2 : opB .mul (.int z) (.int (z + 179)) = some (.int (z * (z + 179))) := mul_ok (.inl (by constructor <;> omega))
    have e3 : opB .fdiv (.int u) (.int 751) = some (.int (u.fdiv 751)) := fdiv_ok (by decide)
    refine ⟨nD r, some (0, z), ?_, ⟨r, hr, rfl⟩, by omega, b1, by omega⟩
    unfold m__law_roll
    rw [evF_eq _ _ rfl]
    simp [f__law_roll, start, setS, nD, e1, hz, e2, hu, e3, hm, e]
theorem w_some {xs : List D} (h0 : xs ≠ []) (h1 : xs.length ≤ 1000000) : Draws (m__law_some [.cup, .lst xs]) fun d => d ∈ xs := by
  intro c hc
  obtain ⟨d, c', e, ⟨r, hr, rfl⟩, hc'⟩ := w_roll (List.length_pos_iff.mpr h0) h1 c hc
  refine ⟨xs[r], c', ?_, List.getElem_mem _, hc'⟩
  unfold m__law_some
  rw [evF_eq _ _ rfl]
  simp [f__law_some, start, o__law_some]
  rw [show (D.int (xs.length : Int)) = nD xs.length from rfl, e]
  simp [nD, hr]
theorem w_cup {ns : List Int} (hn : ns.length ≤ 63) : ∃ x y, m__law_cup [.scr ns] none = .ok .cup (some (x, y)) ∧ CupOk (some (x, y)) := by
  obtain ⟨z, zs, hz⟩ : ∃ (z : Int) (zs : List D), ns.map D.int ++ [D.int 0] = .int z :: zs := by
    cases ns with
    | nil => exact ⟨0, [], rfl⟩
    | cons n ns => exact ⟨n, ns.map D.int ++ [D.int 0], rfl⟩
  have e0 : opF .list [.scr ns] = some (.lst (ns.map D.int)) := rfl
  have e1 : opB .add (.lst (ns.map D.int)) (.lst [.int 0]) = some (.lst (.int z :: zs)) := by rw [← hz]; exact addL_ok (by simp; omega)
  obtain ⟨a, ha, ea⟩ : ∃ a : Int, 0 ≤ a ∧ opF .abs [.int z] = some (.int a) := by
    refine ⟨if z < 0 then -z else z, ?_, rfl⟩
    split <;> omega
  have e2 : opB .pow (.int 10) (.int 18) = some (.int (10 ^ 18)) := rfl
  have e3 : opB .fdiv (.int a) (.int 29) = some (.int (a.fdiv 29)) := fdiv_ok (by decide)
  have e4 : opB .mul (.int a) (.int 229) = some (.int (a * 229)) := mul_ok (.inr (by decide))
  obtain ⟨b1, b2⟩ := fmod_bounds (a * 229 + 1709) (show (0 : Int) < 2077503719 by decide)
  generalize hu : (a * 229 + 1709).fmod 2077503719 = u at b1 b2
  refine ⟨if (1000000000000000000 : Int) ≤ a then a.fdiv 29 else 0, u + 109, ?_, ?_, by omega, by omega⟩
  · unfold m__law_cup
    rw [evF_eq _ _ rfl]
    by_cases hb : (1000000000000000000 : Int) ≤ a
    · simp [f__law_cup, start, setS, e0, e1, ea, e2, e3, e4, hu, hb]
    · simp [f__law_cup, start, setS, e0, e1, ea, e2, e3, e4, hu, hb]
  · split
    · exact fdiv_nonneg ha (by decide)
    · exact Int.le_refl _
theorem w_changes {b : Nat} (hb : b ∈ [2, 3, 4, 5]) (c : Cup) : m__law_changes [nD b] c = .ok (lR (chsN b)) c := by
  simp only [List.mem_cons, List.not_mem_nil, or_false] at hb
  rcases hb with rfl | rfl | rfl | rfl <;> kernel_rfl
theorem w_change {b : Nat} (hb : b ∈ [2, 3, 4, 5]) : Draws (m__law_change [.cup, nD b]) fun d => ∃ ch ∈ chsN b, d = tN ch := by
  intro c hc
  have e := w_changes hb c
  have hl : (chsN b).length ≤ 8 ∧ chsN b ≠ [] := by
    have k : ∀ b ∈ [2, 3, 4, 5], (chsN b).length ≤ 8 ∧ chsN b ≠ [] := by decide
    exact k b hb
  have e1 : opB .mul (.lst ((List.map tN (chsN b)).drop 1)) (.int 3) = some (.lst (List.replicate (3 : Int).toNat ((List.map tN (chsN b)).drop 1)).flatten) := mulL_ok ⟨by decide, by decide, by simp; omega⟩
  have hlen : (List.replicate (3 : Int).toNat ((List.map tN (chsN b)).drop 1)).flatten.length ≤ 100 := by
    have : (3 : Int).toNat = 3 := rfl
    rw [this]
    simp [List.replicate]
    omega
  have e2 : opB .add (.lst (List.replicate (3 : Int).toNat ((List.map tN (chsN b)).drop 1)).flatten) (.lst (List.map tN (chsN b))) = some (.lst ((List.replicate (3 : Int).toNat ((List.map tN (chsN b)).drop 1)).flatten ++ List.map tN (chsN b))) := addL_ok (by simp only [List.length_map]; omega)
  obtain ⟨d, c', e3, hd, hc'⟩ := w_some (xs := (List.replicate (3 : Int).toNat ((List.map tN (chsN b)).drop 1)).flatten ++ List.map tN (chsN b)) (by simp [hl.2]) (by simp only [List.length_append, List.length_map]; omega) c hc
  refine ⟨d, c', ?_, ?_, hc'⟩
  · unfold m__law_change
    rw [evF_eq _ _ rfl]
    simp only [f__law_change]
    simp [start, o__law_change, setS, e]
    simp only [lR, opS_lst, cut_1, lift_some, pure_app, e1, e2, e3]
  · have : ∀ x ∈ (List.replicate (3 : Int).toNat ((List.map tN (chsN b)).drop 1)).flatten ++ List.map tN (chsN b), x ∈ List.map tN (chsN b) := by
      intro x hx
      rcases List.mem_append.mp hx with hx | hx
      · obtain ⟨l, hl, hx⟩ := List.mem_flatten.mp hx
        rw [(List.mem_replicate.mp hl).2] at hx
        exact List.mem_of_mem_drop hx
      · exact hx
    obtain ⟨ch, h1, h2⟩ := List.mem_map.mp (this d hd)
    exact ⟨ch, h1, h2.symm⟩
end PF.K93
end

/-! ## K93d -/
section
/-! K93d: what the law draws; its ways, rows and heads. -/
set_option linter.all false
set_option autoImplicit false
set_option maxRecDepth 100000
namespace PF.K93
open PySem PF
def inL (b : Nat) (l : List (List Nat)) : Prop := ∀ ch ∈ l, ch ∈ chsN b
theorem inL.ok {b : Nat} {l : List (List Nat)} (h : inL b l) : okLead b l := fun ch hc => chsN_fits (h ch hc)
theorem w_lead {b most : Nat} (hb : b ∈ [2, 3, 4, 5]) (h0 : 0 < most) (h1 : most ≤ 1000) : Draws (m__law_lead [.cup, nD b, nD most]) fun d => ∃ l, d = tL l ∧ inL b l ∧ 1 ≤ l.length ∧ l.length ≤ most := by
  intro c hc
  obtain ⟨d, c1, e1, ⟨r, hr, rfl⟩, hc1⟩ := w_roll h0 (by omega) c hc
  have hr1 : rngOk 0 (1 + (r : Int)) = true := rngOk_of (by omega)
  obtain ⟨ts, c2, e2, hl, ht, hc2⟩ := mapGo_draw (f := fun x => (M.pure ([some (.sh .cup), some (.sh (nD b)), some (.sh (nD most)), some (.sh x)] : Env)).bind fun ρ' => ((evP (kinW kinWs) o__law_lead xe__law_lead_0).fst ρ').nox.bind fun d => M.pure (some d)) tN (fun ch => ch ∈ chsN b) CupOk (fun x c hc => by
    obtain ⟨d, c', e, ⟨ch, h2, rfl⟩, hc'⟩ := w_change hb c hc
    exact ⟨ch, c', by simp [xe__law_lead_0, o__law_lead, e], h2, hc'⟩) (rangeD 0 (1 + (r : Int))) [] c1 hc1 (by simp [rangeD]; omega)
  refine ⟨tL ts, c2, ?_, ⟨ts, rfl, ht, ?_, ?_⟩, hc2⟩
  · unfold m__law_lead
    rw [evF_eq _ _ rfl]
    simp [f__law_lead, start, o__law_lead, e1]
    simp [nD, hr1, setS]
    simp [show D.int (b : Int) = nD b from rfl, show D.int (most : Int) = nD most from rfl] 
    simp at e2
    rw [e2]
    simp [tL]
  · rw [hl]; simp [rangeD]; omega
  · rw [hl]; simp [rangeD]; omega
end PF.K93
end

/-! ## K93p -/
section
/-! K93p: rows acting. -/
set_option linter.all false
set_option autoImplicit false
set_option maxRecDepth 100000
namespace PF.K93
open PySem PF
theorem w_acted {r p : List Nat} (h : ∀ i ∈ p, i < r.length) (hl : p.length ≤ 1000) (c : Cup) : m_acted [tN r, tN p] c = .ok (tN (p.map fun i => r.getD i 0)) c := by
  unfold m_acted
  rw [evF_eq _ _ rfl]
  simp [f_acted, start, show tN p = .tup (p.map nD) from rfl]
  rw [mapGo_mapT nD (fun i => nD (r.getD i 0)) p]
  · simp [tN, Function.comp_def]
  · intro i hi
    have := h i hi
    simp [setS, xe_acted_0, tN, nD, this]
  · omega
theorem w_undone {b : Nat} {r : List Nat} (h : isPerm b r) (hb : b ≤ 1000) (c : Cup) : m_undone [tN r] c = .ok (tN (invP b r)) c := by
  have hr : rngOk 0 (b : Int) = true := rngOk_of (by omega)
  have hl : opF .len [tN r] = some (.int (b : Int)) := by simp [tN, h.row.1]
  unfold m_undone
  rw [evF_eq _ _ rfl]
  simp [f_undone, start, hl, hr]
  rw [rangeD_nat, mapGo_mapT nD (fun x => nD (r.idxOf x)) (List.range b)]
  · simp [tN, invP, Function.comp_def]
  · intro x hx
    have hm := h.row.2 x (by simpa using hx)
    simp [setS, xe_undone_0, mthOk, show tN r = .tup (r.map nD) from rfl, index_nats hm]
  · simp; omega
theorem w_acting {b : Nat} {W : List (List Nat)} (ok : okLead b W) (h0 : W ≠ []) (hb : b ≤ 1000) (hl : W.length ≤ 1000) (c : Cup) : m_acting [nD b, tL W] c = .ok (tN (leadTo (List.range b) W)) c := by
  have e1 := w_rounds_of (b := b) (by omega) c
  have e2 := w_rows_by ok (r := List.range b) (by simp) hb hl c
  have e3 := rowsBy_last (List.range b) W
  rw [if_neg h0] at e3
  have e4 : opI c (lR (rowsBy (List.range b) W)) (.int (-1)) = some (tN (leadTo (List.range b) W)) := by
    simp [lR, List.getLast?_map, e3]
  unfold m_acting
  rw [evF_eq _ _ rfl]
  simp [f_acting, start, o_acting, e1, e2, e4]
end PF.K93
end

/-! ## K93q -/
section
/-! K93q: roads_in, walked. -/
set_option linter.all false
set_option autoImplicit false
set_option maxRecDepth 100000
namespace PF.K93
open PySem PF
structure RegOk (b : Nat) (reg : List WR) : Prop where
  p : ∀ q ∈ reg, isPerm b q.2
  n : (reg.map (·.2)).Nodup
theorem permsL_len {b : Nat} (hb : b ≤ 6) : (permsL (List.range b)).length ≤ 720 := by
  rcases b with _ | _ | _ | _ | _ | _ | _ | b
  · decide +kernel
  · decide +kernel
  · decide +kernel
  · decide +kernel
  · decide +kernel
  · decide +kernel
  · decide +kernel
  · omega
theorem RegOk.len {b : Nat} (hb : b ≤ 6) {reg : List WR} (h : RegOk b reg) : reg.length ≤ 720 := by
  have := List.Nodup.length_le_of_subset h.n (l₂ := permsL (List.range b)) fun r hr => by
    obtain ⟨q, hq, rfl⟩ := List.mem_map.mp hr
    exact (h.p q hq).mem
  have h2 := permsL_len hb
  simp at this
  omega
theorem RegOk.snoc {b : Nat} {reg : List WR} (h : RegOk b reg) {q : WR} (hq : isPerm b q.2) (hn : q.2 ∉ reg.map (·.2)) : RegOk b (reg ++ [q]) where
  p := fun x hx => by
    rcases List.mem_append.mp hx with hx | hx
    · exact h.p x hx
    · rw [List.mem_singleton.mp hx]; exact hq
  n := by
    rw [List.map_append, List.nodup_append]
    refine ⟨h.n, by simp, fun a ha c hc => ?_⟩
    simp at hc
    subst hc
    exact fun z => hn (z ▸ ha)
def actOf (b : Nat) (ws : List (List (List Nat))) (i : Nat) : List Nat := leadTo (List.range b) (ws.getD i [])
def rowsD (l : List WR) : D := .lst (l.map fun q => tN q.2)
theorem rd_body {b : Nat} {ws : List (List (List Nat))} (hb : b ≤ 6) (hw : waysOk b ws) {i : Nat} (hi : i < ws.length) {v r : List Nat} (hr : isPerm b r) (hv : v.length ≤ 100000) {reg lat : List WR} (hm : (v, r) ∈ reg) (ok : RegOk b reg) (hl : lat.length ≤ 100000) (a0 a1 a2 a3 a5 a8 a11 : Option Sl) (c : Cup) :
    ∃ reg' lat', (∀ cs, scan none ((v ++ [i], leadTo r (ws.getD i [])) :: cs) reg lat = scan none cs reg' lat') ∧ (∀ q ∈ reg, q ∈ reg') ∧ RegOk b reg' ∧ lat'.length ≤ lat.length + 1 ∧
    evSs (kinW kinWs) o_roads_in lb_roads_in_0 [a0, a1, a2, a3, some (.sh (.dct (reg.map kv))), a5, some (.sh (rowsD lat)), some (.sh (tN r)), a8, some (.sh (nD i)), some (.sh (tN (actOf b ws i))), a11] c
      = .ok (.nx [a0, a1, a2, a3, some (.sh (.dct (reg'.map kv))), a5, some (.sh (rowsD lat')), some (.sh (tN r)), a8, some (.sh (nD i)), some (.sh (tN (actOf b ws i))), some (.sh (tN (leadTo r (ws.getD i []))))]) c := by
  have oki := hw i hi
  have hp := isPerm_leadTo oki (isPerm_rounds b)
  have e1 : m_acted [tN r, tN (actOf b ws i)] c = .ok (tN (leadTo r (ws.getD i []))) c := by
    rw [w_acted (fun j hj => by rw [hr.row.1]; exact lt_of_row hp j hj) (by show (leadTo _ _).length ≤ 1000; rw [hp.row.1]; omega) c, actOf, ← act_leadTo oki hr.row.1]
  have hg := isPerm_leadTo oki hr
  generalize leadTo r (ws.getD i []) = g at e1 hg
  have e2 := notin_reg (reg := reg) g
  by_cases h : g ∈ reg.map (·.2)
  · refine ⟨reg, lat, fun cs => ?_, fun q h => h, ok, by omega, ?_⟩
    · show (if none = some g then _ else if g ∈ reg.map (·.2) then _ else _) = _
      rw [if_neg (by simp), if_pos h]
    · simp only [h, decide_true, Bool.not_true] at e2
      simp [lb_roads_in_0, o_roads_in, e1, setS, e2]
  · refine ⟨reg ++ [(v ++ [i], g)], lat ++ [(v ++ [i], g)], fun cs => ?_, fun q hq => List.mem_append.mpr (.inl hq), ok.snoc hg h, by simp, ?_⟩
    · show (if none = some g then _ else if g ∈ reg.map (·.2) then _ else _) = _
      rw [if_neg (by simp), if_neg h]
    · simp only [h, decide_false, Bool.not_false] at e2
      have e3 := idx_reg ok.n hm c
      have hl2 := ok.len hb
      have e4 := ok_reg hb ok.p ok.n (by omega)
      have e5 : opB .add (tN v) (.tup [nD i]) = some (tN (v ++ [i])) := by
        have : opB .add (.tup (v.map nD)) (.tup [nD i]) = some (.tup (v.map nD ++ [nD i])) := addT_ok (by simp; omega)
        simp only [tN, List.map_append, List.map_cons, List.map_nil]
        exact this
      have e6 := put_reg (u := v ++ [i]) h
      have e7 : opB .add (rowsD lat) (.lst [tN g]) = some (rowsD (lat ++ [(v ++ [i], g)])) := by
        have : opB .add (.lst (lat.map fun q => tN q.2)) (.lst [tN g]) = some (.lst ((lat.map fun q => tN q.2) ++ [tN g])) := addL_ok (by simp; omega)
        simp only [rowsD, List.map_append, List.map_cons, List.map_nil]
        exact this
      simp only at e3
      simp [lb_roads_in_0, o_roads_in, e1, setS, e2]
      simp [e3, e4, e5, e6, e7, setP, setS]
end PF.K93
end

/-! ## K93r -/
section
/-! K93r: roads_in, whole. -/
set_option linter.all false
set_option autoImplicit false
set_option maxRecDepth 100000
namespace PF.K93
open PySem PF
theorem zipIdx_range (k : Nat) : (List.range k).zipIdx = (List.range k).map fun i => (i, i) := by
  apply List.ext_getElem?
  intro j
  rw [List.getElem?_zipIdx, List.getElem?_map]
  by_cases h : j < k <;> simp [h]
theorem range_map_getD {α : Type} (ws : List (List (List Nat))) (f : List (List Nat) → α) : (List.range ws.length).map (fun i => f (ws.getD i [])) = ws.map f := by
  apply List.ext_getElem?
  intro j
  rw [List.getElem?_map, List.getElem?_map]
  by_cases h : j < ws.length <;> simp [h]
def actD (b : Nat) (ws : List (List (List Nat))) (i : Nat) : D := .tup [nD i, tN (actOf b ws i)]
def candsOf (ws : List (List (List Nat))) (q : WR) (is : List Nat) : List WR := is.map fun i => (q.1 ++ [i], leadTo q.2 (ws.getD i []))
theorem rd_inner {b : Nat} {ws : List (List (List Nat))} (hb : b ≤ 6) (hw : waysOk b ws) {v r : List Nat} (hr : isPerm b r) (hv : v.length ≤ 100000) (a0 a1 a2 a3 a5 a8 : Option Sl) (c : Cup) : ∀ (is : List Nat), (∀ i ∈ is, i < ws.length) → ∀ (reg lat : List WR) (a9 a10 a11 : Option Sl), (v, r) ∈ reg → RegOk b reg → lat.length + is.length ≤ 100000 →
    ∃ reg' lat' b9 b10 b11, (∀ cs, scan none (candsOf ws (v, r) is ++ cs) reg lat = scan none cs reg' lat') ∧ (∀ q ∈ reg, q ∈ reg') ∧ RegOk b reg' ∧ lat'.length ≤ lat.length + is.length ∧
    forGo (.tp [(.nm 9), (.nm 10)]) (evSs (kinW kinWs) o_roads_in lb_roads_in_0) (is.map (actD b ws)) [a0, a1, a2, a3, some (.sh (.dct (reg.map kv))), a5, some (.sh (rowsD lat)), some (.sh (tN r)), a8, a9, a10, a11] c
      = .ok (.nx [a0, a1, a2, a3, some (.sh (.dct (reg'.map kv))), a5, some (.sh (rowsD lat')), some (.sh (tN r)), a8, b9, b10, b11]) c
  | [], _, reg, lat, a9, a10, a11, _, ok, _ => ⟨reg, lat, a9, a10, a11, fun cs => rfl, fun q h => h, ok, by simp, rfl⟩
  | i :: is, hi, reg, lat, a9, a10, a11, hm, ok, hl => by
    simp only [List.length_cons] at hl
    obtain ⟨reg1, lat1, s1, m1, ok1, l1, e1⟩ := rd_body hb hw (hi i List.mem_cons_self) hr hv hm ok (by omega : lat.length ≤ 100000) a0 a1 a2 a3 a5 a8 a11 c
    obtain ⟨reg2, lat2, b9, b10, b11, s2, m2, ok2, l2, e2⟩ := rd_inner hb hw hr hv a0 a1 a2 a3 a5 a8 c is (fun j hj => hi j (List.mem_cons_of_mem _ hj)) reg1 lat1 (some (.sh (nD i))) (some (.sh (tN (actOf b ws i)))) (some (.sh (tN (leadTo r (ws.getD i []))))) (m1 _ hm) ok1 (by omega)
    refine ⟨reg2, lat2, b9, b10, b11, fun cs => ?_, fun q hq => m2 q (m1 q hq), ok2, by simp; omega, ?_⟩
    · show scan none ((v ++ [i], leadTo r (ws.getD i [])) :: (candsOf ws (v, r) is ++ cs)) reg lat = _
      rw [s1, s2]
    · rw [List.map_cons, for_step (ρ1 := [a0, a1, a2, a3, some (.sh (.dct (reg.map kv))), a5, some (.sh (rowsD lat)), some (.sh (tN r)), a8, some (.sh (nD i)), some (.sh (tN (actOf b ws i))), a11]) rfl e1]
      exact e2
theorem rd_rows {b : Nat} {ws : List (List (List Nat))} (hb : b ≤ 6) (hw : waysOk b ws) (hk : ws.length ≤ 10) (a0 a1 a3 a5 a8 : Option Sl) (c : Cup) : ∀ (line : List WR) (reg lat : List WR) (a7 a9 a10 a11 : Option Sl), (∀ q ∈ line, q ∈ reg ∧ q.1.length ≤ 100000) → RegOk b reg → lat.length + line.length * 10 ≤ 100000 →
    ∃ reg' lat' b7 b9 b10 b11, (∀ cs, scan none (cands ws line ++ cs) reg lat = scan none cs reg' lat') ∧ RegOk b reg' ∧ lat'.length ≤ lat.length + line.length * 10 ∧
    forGo (.nm 7) (evSs (kinW kinWs) o_roads_in lb_roads_in_1) (line.map fun q => tN q.2) [a0, a1, some (.sh (.lst ((List.range ws.length).map fun i => tN (actOf b ws i)))), a3, some (.sh (.dct (reg.map kv))), a5, some (.sh (rowsD lat)), a7, a8, a9, a10, a11] c
      = .ok (.nx [a0, a1, some (.sh (.lst ((List.range ws.length).map fun i => tN (actOf b ws i)))), a3, some (.sh (.dct (reg'.map kv))), a5, some (.sh (rowsD lat')), b7, a8, b9, b10, b11]) c
  | [], reg, lat, a7, a9, a10, a11, _, ok, _ => ⟨reg, lat, a7, a9, a10, a11, fun cs => rfl, ok, by simp, rfl⟩
  | (v, r) :: line, reg, lat, a7, a9, a10, a11, hm, ok, hl => by
    simp only [List.length_cons, Nat.add_mul, Nat.one_mul] at hl
    obtain ⟨h1, h2⟩ := hm (v, r) List.mem_cons_self
    obtain ⟨reg1, lat1, b9, b10, b11, s1, m1, ok1, l1, e1⟩ := rd_inner hb hw (ok.p _ h1) h2 a0 a1 (some (.sh (.lst ((List.range ws.length).map fun i => tN (actOf b ws i))))) a3 a5 a8 c (List.range ws.length) (fun i hi => by simpa using hi) reg lat a9 a10 a11 h1 ok (by simp; omega)
    simp only [List.length_range] at l1
    obtain ⟨reg2, lat2, d7, d9, d10, d11, s2, ok2, l2, e2⟩ := rd_rows hb hw hk a0 a1 a3 a5 a8 c line reg1 lat1 (some (.sh (tN r))) b9 b10 b11 (fun q hq => ⟨m1 q (hm q (List.mem_cons_of_mem _ hq)).1, (hm q (List.mem_cons_of_mem _ hq)).2⟩) ok1 (by omega)
    refine ⟨reg2, lat2, d7, d9, d10, d11, fun cs => ?_, ok2, by simp only [List.length_cons, Nat.add_mul, Nat.one_mul]; omega, ?_⟩
    · show scan none ((candsOf ws (v, r) (List.range ws.length) ++ cands ws line) ++ cs) reg lat = _
      rw [List.append_assoc, s1, s2]
    · have ee : enumD 0 ((List.range ws.length).map fun i => tN (actOf b ws i)) = (List.range ws.length).map (actD b ws) := by
        rw [enumD_map (fun i => tN (actOf b ws i)), zipIdx_range, List.map_map]
        rfl
      rw [List.map_cons, for_step (ρ1 := [a0, a1, some (.sh (.lst ((List.range ws.length).map fun i => tN (actOf b ws i)))), a3, some (.sh (.dct (reg.map kv))), a5, some (.sh (rowsD lat)), some (.sh (tN r)), a8, a9, a10, a11]) rfl (ρ2 := [a0, a1, some (.sh (.lst ((List.range ws.length).map fun i => tN (actOf b ws i)))), a3, some (.sh (.dct (reg1.map kv))), a5, some (.sh (rowsD lat1)), some (.sh (tN r)), a8, b9, b10, b11]) (c2 := c) ?_]
      · exact e2
      · simp [lb_roads_in_1]
        rw [ee, e1]
        rfl
theorem ne_rowsD (l : List WR) : opC .ne (rowsD l) (.lst []) = some (!decide (l = [])) := by
  rw [opC_ne (rowsD l) (.lst []) (plainN_lst (n := 19) fun x hx => by
    obtain ⟨q, _, rfl⟩ := List.mem_map.mp hx
    exact plainN_tN q.2 18) rfl]
  cases l <;> rfl
theorem rd_while {b : Nat} {ws : List (List (List Nat))} (hb : b ≤ 6) (hw : waysOk b ws) (hk : ws.length ≤ 10) (a0 a1 a3 a8 : Option Sl) (c : Cup) : ∀ (fuel N n : Nat) (reg line R : List WR) (a6 a7 a9 a10 a11 : Option Sl), Lev ws (List.range b) none true n reg line → n + fuel ≤ 100000 → fuel ≤ N → bfs none ws fuel reg line = some (.inr R) →
    ∃ b5 b6 b7 b9 b10 b11, whlGo (evT (kinW kinWs) o_roads_in wc_roads_in_0) (evSs (kinW kinWs) o_roads_in wb_roads_in_0) N [a0, a1, some (.sh (.lst ((List.range ws.length).map fun i => tN (actOf b ws i)))), a3, some (.sh (.dct (reg.map kv))), some (.sh (rowsD line)), a6, a7, a8, a9, a10, a11] c
      = .ok (.nx [a0, a1, some (.sh (.lst ((List.range ws.length).map fun i => tN (actOf b ws i)))), a3, some (.sh (.dct (R.map kv))), b5, b6, b7, a8, b9, b10, b11]) c
  | 0, _, _, _, _, _, _, _, _, _, _, _, _, _, e => by cases e
  | fuel + 1, 0, _, _, _, _, _, _, _, _, _, _, _, hN, _ => by omega
  | fuel + 1, N + 1, n, reg, line, R, a6, a7, a9, a10, a11, h, hn, hN, e => by
    have e0 := ne_rowsD line
    unfold bfs at e
    split at e
    · rename_i hl
      cases e
      subst hl
      simp only [decide_true, Bool.not_true] at e0
      refine ⟨some (.sh (rowsD [])), a6, a7, a9, a10, a11, ?_⟩
      unfold whlGo
      simp [evT, wc_roads_in_0, e0]
    · rename_i hl
      simp only [hl, decide_false, Bool.not_false] at e0
      cases e2 : scan none (cands ws line) reg [] with
      | inl w => rw [e2] at e; cases e
      | inr p =>
        obtain ⟨reg', lat⟩ := p
        rw [e2] at e
        have h' := h.step (fun _ => rfl) e2
        have ok : RegOk b reg := ⟨h.perm hw (isPerm_rounds b), h.f⟩
        have hr : ∀ q ∈ line, q ∈ reg ∧ q.1.length ≤ 100000 := fun q hq => by
          rcases (h.b q).mp hq with ⟨h1, h2⟩ | ⟨h1, rfl⟩
          · exact ⟨h1, by omega⟩
          · obtain ⟨p, hp, e, l⟩ := h.c [] (fun i hi => by cases hi) (.inl rfl) (by simp)
            have : p = ([], List.range b) := by
              have e1 : p.1 = [] := by
                rcases l with l | ⟨l, _⟩
                · simp at l
                · exact List.length_eq_zero_iff.mp l
              exact Prod.ext e1 e
            rw [← this]
            exact ⟨hp, by rw [this]; simp⟩
        have hll : line.length ≤ 720 := by
          have nd : (line.map (·.2)).Nodup := by
            refine nodup_map_on (fun x hx y hy exy => ?_) (h.d.imp fun {a b} z e => by rw [e] at z; exact ltN_irrefl _ z)
            exact inj_of_nodup h.f x (hr x hx).1 y (hr y hy).1 exy
          have := RegOk.len (b := b) hb (reg := line) ⟨fun q hq => ok.p q (hr q hq).1, nd⟩
          exact this
        obtain ⟨reg2, lat2, d7, d9, d10, d11, s2, ok2, l2, f2⟩ := rd_rows hb hw hk a0 a1 a3 (some (.sh (rowsD line))) a8 c line reg [] a7 a9 a10 a11 hr ok (by simp; omega)
        have s3 := s2 []
        rw [List.append_nil, e2] at s3
        cases s3
        obtain ⟨b5, b6, b7, b9, b10, b11, k⟩ := rd_while hb hw hk a0 a1 a3 a8 c fuel N (n + 1) reg' lat R (some (.sh (rowsD lat))) d7 d9 d10 d11 h' (by omega) (by omega) e
        refine ⟨b5, b6, b7, b9, b10, b11, ?_⟩
        unfold whlGo
        simp only [show rowsD [] = D.lst [] from rfl, show ∀ l : List WR, rowsD l = .lst (l.map fun q => tN q.2) from fun _ => rfl] at f2 e0 k
        simp [evT, wc_roads_in_0, show ∀ l : List WR, rowsD l = .lst (l.map fun q => tN q.2) from fun _ => rfl, e0]
        simp [wb_roads_in_0, setS]
        rw [f2]
        simp [setS]
        exact k
end PF.K93
end

/-! ## K93s -/
section
/-! K93s: roads_in's end; the law's search for the first home. -/
set_option linter.all false
set_option autoImplicit false
set_option maxRecDepth 100000
namespace PF.K93
open PySem PF
theorem WOk.wok {b : Nat} {ws : List (List (List Nat))} (h : WOk b ws) : waysOk b ws := fun i hi => (h.at_ hi).1
theorem w_roads_in {b : Nat} {ws : List (List (List Nat))} (hb : b ≤ 6) (h : WOk b ws) (hk : ws.length ≤ 10) : ∃ R m, m ≤ 800 ∧ Lev ws (List.range b) none true m R [] ∧ ∀ c, m_roads_in [nD b, .tup (ws.map tL)] c = .ok (.dct (R.map kv)) c := by
  have hb2 := h.b2
  have hw := WOk.wok h
  have hp := permsL_len hb
  obtain ⟨x, hx⟩ := bfs_end hw (isPerm_rounds b) (T := none) (z := true) (fun _ => rfl) 800 0 [([], List.range b)] [([], List.range b)] (Lev.startR none) (by simp; omega)
  have hR : ∃ R, x = .inr R := by
    cases x with
    | inr R => exact ⟨R, rfl⟩
    | inl w =>
      exfalso
      have key : ∀ (fuel : Nat) (reg line : List WR), bfs none ws fuel reg line ≠ some (.inl w) := by
        intro fuel
        induction fuel with
        | zero => intro reg line e; cases e
        | succ fuel ih =>
          intro reg line e
          unfold bfs at e
          split at e
          · cases e
          · have sc : ∀ (cs reg lat : List WR) (w : List Nat), scan none cs reg lat ≠ .inl w := by
              intro cs
              induction cs with
              | nil => intro reg lat w e; cases e
              | cons q cs ih2 =>
                intro reg lat w e
                unfold scan at e
                rw [if_neg (by simp)] at e
                split at e
                · exact ih2 _ _ _ e
                · exact ih2 _ _ _ e
            cases e2 : scan none (cands ws line) reg [] with
            | inl w' => exact sc _ _ _ _ e2
            | inr p =>
              obtain ⟨reg', lat⟩ := p
              rw [e2] at e
              exact ih _ _ e
      exact key _ _ _ hx
  obtain ⟨R, rfl⟩ := hR
  obtain ⟨m, hm0, hm⟩ := bfs_all (fun _ => rfl) 800 0 _ _ R (Lev.startR none) hx
  refine ⟨R, m, by omega, hm, fun c => ?_⟩
  have e0 := w_rounds_of (b := b) (by omega) c
  obtain ⟨b5, b6, b7, b9, b10, b11, e1⟩ := rd_while hb hw hk (some (.sh (nD b))) (some (.sh (.tup (ws.map tL)))) (some (.sh (tN (List.range b)))) none c 800 1000000 0 [([], List.range b)] [([], List.range b)] R none none none none none (Lev.startR none) (by omega) (by omega) hx
  have ed : dOne (tN (List.range b)) (.tup []) = some (.dct ([(([] : List Nat), List.range b)].map kv)) := by
    unfold dOne
    rw [keyD_tN]
    rfl
  have em : ws.map (fun W => tN (leadTo (List.range b) W)) = (List.range ws.length).map fun i => tN (actOf b ws i) := (range_map_getD ws fun W => tN (leadTo (List.range b) W)).symm
  unfold m_roads_in
  rw [evF_eq _ _ rfl]
  simp [f_roads_in, start, o_roads_in]
  rw [mapGo_mapT tL (fun W => tN (leadTo (List.range b) W)) ws]
  · simp only [em]
    simp [e0, setP, setS, ed]
    have e1' := e1
    simp only [rowsD, List.map_cons, List.map_nil] at e1'
    rw [e1']
    simp
  · intro W hW
    obtain ⟨ok, hne, hle⟩ := h.ok W hW
    have := w_acting ok hne (by omega) (by omega) c
    simp [setS, xe_roads_in_0, o_roads_in, this]
  · omega
end PF.K93
end

/-! ## K93t -/
section
/-! K93t: rows and groups, as told. -/
set_option linter.all false
set_option autoImplicit false
set_option maxRecDepth 100000
namespace PF.K93
open PySem PF
theorem isw {x n : Nat} (h : x < n) (c : Cup) : m_is_whole [nD x, .int 0, .int ((n : Int) - 1)] c = .ok (.bl true) c := by
  rw [show nD x = .int (x : Int) from rfl, w_is_whole]
  simp
  omega
theorem ch_len {b : Nat} {l : List (List Nat)} (h : okLead b l) (hb : b ≤ 6) : ∀ ch ∈ l, ch.length ≤ 1000 := fun ch hc => by
  have f := h ch hc
  have nd : ch.Nodup := List.Pairwise.imp (fun {a c} (z : a + 1 < c) => by omega) f.2
  have := List.Nodup.length_le_of_subset nd (l₂ := List.range b) fun p hp => by
    have := f.1 p hp
    simp
    omega
  simp at this
  omega
theorem w_need_bells {b : Nat} (h1 : 2 ≤ b) (h2 : b ≤ 6) (c : Cup) : m_need_bells [nD b] c = .ok .non c := by
  have e : m_is_whole [nD b, .int 2, .int 6] c = .ok (.bl true) c := by
    rw [show nD b = .int (b : Int) from rfl, w_is_whole]
    simp
    omega
  unfold m_need_bells
  rw [evF_eq _ _ rfl]
  simp [f_need_bells, start, o_need_bells, e]
theorem w_fits_lead_ok {b : Nat} {W : List (List Nat)} (hb : b ≤ 6) (ok : okLead b W) (h1 : W ≠ []) (h2 : W.length ≤ 24) (c : Cup) : m_fits_lead [nD b, tL W] c = .ok (.bl true) c := by
  have : 1 ≤ W.length := by
    cases W with
    | nil => exact absurd rfl h1
    | cons x W => simp
  rw [w_fits_lead ok (by omega) (ch_len ok hb) c]
  simp [this, h2]
theorem w_need_lead {b : Nat} {W : List (List Nat)} (hb : b ≤ 6) (ok : okLead b W) (h1 : W ≠ []) (h2 : W.length ≤ 24) (c : Cup) : m_need_lead [nD b, tL W] c = .ok .non c := by
  unfold m_need_lead
  rw [evF_eq _ _ rfl]
  simp [f_need_lead, start, o_need_lead, w_fits_lead_ok hb ok h1 h2 c]
theorem w_fit_ways {b : Nat} {ws : List (List (List Nat))} (h : WOk b ws) (hk : ws.length ≤ 6) (c : Cup) : m_fit_ways [nD b, .tup (ws.map tL)] c = .ok (.bl true) c := by
  have n1 := h.n1
  unfold m_fit_ways
  rw [evF_eq _ _ rfl]
  simp [f_fit_ways, start, o_fit_ways, w_is_tuple_of]
  rw [mapGo_mapT tL (fun _ => D.bl true) ws]
  · have h3 : (1 : Int) ≤ ws.length := by omega
    have h4 : (ws.length : Int) ≤ 6 := by omega
    simp [h3, h4, all_true]
  · intro W hW
    obtain ⟨ok, hne, hle⟩ := h.ok W hW
    simp [setS, xe_fit_ways_0, o_fit_ways, w_fits_lead_ok h.b2 ok hne hle c]
  · omega
theorem w_need_ways {b : Nat} {ws : List (List (List Nat))} (h : WOk b ws) (hk : ws.length ≤ 6) (c : Cup) : m_need_ways [nD b, .tup (ws.map tL)] c = .ok .non c := by
  unfold m_need_ways
  rw [evF_eq _ _ rfl]
  simp [f_need_ways, start, o_need_ways, w_fit_ways h hk c]
theorem w_fits_row {b lo hi : Nat} {r : List Nat} (h : isPerm b r) (hb : b ≤ 6) (h1 : lo ≤ b) (h2 : b ≤ hi) (c : Cup) : m_fits_row [tN r, nD lo, nD hi] c = .ok (.bl true) c := by
  have hl := h.row.1
  have e1 : m_is_tuple_of [tN r, .int lo, .int hi] c = .ok (.bl true) c := by
    rw [show tN r = .tup (r.map nD) from rfl, w_is_tuple_of]
    simp [hl]
    omega
  have e2 : lsetO (tN r) = some (nD r.length) := lset_tN h.nd (by omega)
  have e3 : opF .len [tN r] = some (nD r.length) := by simp [tN, nD]
  unfold m_fits_row
  rw [evF_eq _ _ rfl]
  simp [f_fits_row, start, o_fits_row, show nD lo = .int (lo : Int) from rfl, show nD hi = .int (hi : Int) from rfl, e1]
  rw [show itemsOf (tN r) = some (r.map nD) from rfl]
  simp
  rw [mapGo_mapT nD (fun _ => D.bl true) r]
  · simp [all_true, e2, e3, eq_nD]
  · intro x hx
    have e4 : opF .len [tN r] = some (.int (b : Int)) := by rw [e3, hl]; rfl
    have := isw (lt_of_row h x hx) c
    simp [setS, xe_fits_row_0, o_fits_row, e4, this]
  · omega
theorem w_need_row {b lo hi : Nat} {r : List Nat} (h : isPerm b r) (hb : b ≤ 6) (h1 : lo ≤ b) (h2 : b ≤ hi) (c : Cup) : m_need_row [tN r, nD lo, nD hi] c = .ok .non c := by
  unfold m_need_row
  rw [evF_eq _ _ rfl]
  simp [f_need_row, start, o_need_row, w_fits_row h hb h1 h2 c]
theorem w_acted_comp {b : Nat} {r q : List Nat} (hr : isPerm b r) (hq : isPerm b q) (hb : b ≤ 6) (c : Cup) : m_acted [tN r, tN q] c = .ok (tN (comp r q)) c :=
  w_acted (fun i hi => by rw [hr.row.1]; exact lt_of_row hq i hi) (by rw [hq.row.1]; omega) c
theorem w_followed_by {b : Nat} {r q : List Nat} (hr : isPerm b r) (hq : isPerm b q) (h1 : 2 ≤ b) (hb : b ≤ 6) (c : Cup) : m_followed_by [tN r, tN q] c = .ok (tN (comp r q)) c := by
  have e1 := w_need_row hr hb (lo := 2) (hi := 6) h1 hb c
  have e2 := w_need_row hq hb (lo := b) (hi := b) (Nat.le_refl _) (Nat.le_refl _) c
  have e3 : opF .len [tN r] = some (nD b) := by simp [tN, nD, hr.row.1]
  unfold m_followed_by
  rw [evF_eq _ _ rfl]
  simp [f_followed_by, start, o_followed_by, show D.int 2 = nD 2 from rfl, show D.int 6 = nD 6 from rfl, e1, e2, e3, w_acted_comp hr hq hb c]
theorem w_row_undone {b : Nat} {r : List Nat} (hr : isPerm b r) (h1 : 2 ≤ b) (hb : b ≤ 6) (c : Cup) : m_row_undone [tN r] c = .ok (tN (invP b r)) c := by
  have e1 := w_need_row hr hb (lo := 2) (hi := 6) h1 hb c
  unfold m_row_undone
  rw [evF_eq _ _ rfl]
  simp [f_row_undone, start, o_row_undone, show D.int 2 = nD 2 from rfl, show D.int 6 = nD 6 from rfl, e1, w_undone hr (by omega) c]
theorem w_acting_row {b : Nat} {W : List (List Nat)} (h1 : 2 ≤ b) (hb : b ≤ 6) (ok : okLead b W) (h0 : W ≠ []) (h2 : W.length ≤ 24) (c : Cup) : m_acting_row [nD b, tL W] c = .ok (tN (leadTo (List.range b) W)) c := by
  unfold m_acting_row
  rw [evF_eq _ _ rfl]
  simp [f_acting_row, start, o_acting_row, w_need_bells h1 hb c, w_need_lead hb ok h0 h2 c, w_acting ok h0 (by omega) (by omega) c]
/-- the roads that are found -/
structure Rd (b : Nat) (ws : List (List (List Nat))) (R : List WR) : Prop where
  w : WOk b ws
  b1 : 2 ≤ b
  k : ws.length ≤ 6
  lev : ∃ m, m ≤ 800 ∧ Lev ws (List.range b) none true m R []
  run : ∀ c, m_roads_in [nD b, .tup (ws.map tL)] c = .ok (.dct (R.map kv)) c
theorem rd_ex {b : Nat} {ws : List (List (List Nat))} (h : WOk b ws) (b1 : 2 ≤ b) (hk : ws.length ≤ 6) : ∃ R, Rd b ws R := by
  obtain ⟨R, m, hm, hl, hr⟩ := w_roads_in h.b2 h (by omega)
  exact ⟨R, h, b1, hk, ⟨m, hm, hl⟩, hr⟩
def grpOf (R : List WR) : List (List Nat) := sortR (R.map (·.2))
def actsOf (b : Nat) (ws : List (List (List Nat))) : List (List Nat) := ws.map fun W => leadTo (List.range b) W
section
variable {b : Nat} {ws : List (List (List Nat))} {R : List WR} (h : Rd b ws R)
include h
theorem Rd.b2 : b ≤ 6 := h.w.b2
theorem Rd.grp0 : Grp b (R.map (·.2)) := by
  obtain ⟨m, _, hl⟩ := h.lev
  exact hl.grp (WOk.wok h.w)
theorem Rd.grp : Grp b (grpOf R) := h.grp0.sort
theorem Rd.len0 : R.length ≤ 720 := by
  have := h.grp0.len h.w.b2
  simpa using this
theorem Rd.len : (grpOf R).length ≤ 720 := h.grp.len h.w.b2
theorem Rd.sorted : opF .sorted [.dct (R.map kv)] = some (.lst ((grpOf R).map tN)) := sorted_reg (by have := h.len0; omega)
theorem Rd.acts : ∀ a ∈ actsOf b ws, a ∈ grpOf R := fun a ha => by
  obtain ⟨W, hW, rfl⟩ := List.mem_map.mp ha
  obtain ⟨m, _, hl⟩ := h.lev
  exact sortR_mem.mpr (hl.act hW)
theorem Rd.tab : TabOk (tabOf (grpOf R) (actsOf b ws)) ws.length := by
  have := h.grp.tab h.w.b2 h.acts (by have := h.w.n1; simpa [actsOf] using this) (by have := h.k; simpa [actsOf] using this)
  simpa [actsOf] using this
theorem w_group_of (c : Cup) : m_group_of [nD b, .tup (ws.map tL)] c = .ok (.tup ((grpOf R).map tN)) c := by
  unfold m_group_of
  rw [evF_eq _ _ rfl]
  simp [f_group_of, start, o_group_of, w_need_bells h.b1 h.b2 c, w_need_ways h.w h.k c, h.run c, h.sorted]
theorem w_number_of {r : List Nat} (hr : r ∈ grpOf R) (c : Cup) : m_number_of [nD b, .tup (ws.map tL), tN r] c = .ok (nD ((grpOf R).idxOf r)) c := by
  have e1 := w_need_row (h.grp.pm r hr) h.b2 (lo := b) (hi := b) (Nat.le_refl _) (Nat.le_refl _) c
  have e2 := encR.in_ (by omega) r (grpOf R)
  have e3 := encR.indexL (by omega) hr
  simp only [hr, decide_true] at e2
  unfold m_number_of
  rw [evF_eq _ _ rfl]
  simp [f_number_of, start, o_number_of, tl_number_of_0, tl_number_of_1, tl_number_of_2, tl_number_of_3, tl_number_of_4, w_need_bells h.b1 h.b2 c, w_need_ways h.w h.k c, h.run c, h.sorted, e1, setS, e2, mthOk, e3]
def numK (q : List Nat × Nat) : NestedKey := kN q.1
theorem w_table_by (c : Cup) : m_table_by [nD b, .tup (ws.map tL)] c = .ok (tL (tabOf (grpOf R) (actsOf b ws))) c := by
  have hg := h.grp
  have hlen := h.len
  have e1 : enumD 0 ((grpOf R).map tN) = (grpOf R).zipIdx.map fun q : List Nat × Nat => D.tup [nD q.2, tN q.1] := enumD_map tN _ 0
  have hz : ((grpOf R).zipIdx.map fun q : List Nat × Nat => kN q.1).Nodup := by
    have : ((grpOf R).zipIdx.map fun q : List Nat × Nat => kN q.1) = (grpOf R).map kN := by
      rw [show (fun q : List Nat × Nat => kN q.1) = kN ∘ Prod.fst from rfl, ← List.map_map, List.zipIdx_map_fst]
    rw [this]
    exact nodup_map_on (fun x _ y _ e => kN_inj e) hg.nd
  have e2 := dict_pairs (k := fun q : List Nat × Nat => tN q.1) (v := fun q => nD q.2) (K := fun q => kN q.1) (fun q => keyD_tN q.1) (l := (grpOf R).zipIdx) hz (by simp; omega)
  have e3 : ∀ r ∈ grpOf R, ∀ c, opI c (.dct (dN (fun q : List Nat × Nat => tN q.1) (fun q => nD q.2) (grpOf R).zipIdx)) (tN r) = some (nD ((grpOf R).idxOf r)) := fun r hr c => by
    have hm : (r, (grpOf R).idxOf r) ∈ (grpOf R).zipIdx := by
      rw [List.mem_zipIdx_iff_getElem?]
      exact List.getElem?_eq_some_iff.mpr ⟨List.idxOf_lt_length_iff.mpr hr, List.getElem_idxOf _⟩
    show (keyD (tN r)).bind (dAt _) = _
    rw [keyD_tN]
    exact dAt_some (k := fun q : List Nat × Nat => tN q.1) (v := fun q => nD q.2) (K := fun q => kN q.1) (fun q => keyD_tN q.1) hz _ hm
  unfold m_table_by
  rw [evF_eq _ _ rfl]
  simp [f_table_by, start, o_table_by]
  rw [mapGo_mapT tL (fun W => tN (leadTo (List.range b) W)) ws]
  · simp [h.run c, h.sorted, setP, setS, e1]
    rw [mapGo_mapT (fun q : List Nat × Nat => D.tup [nD q.2, tN q.1]) (fun q => D.tup [tN q.1, nD q.2]) (grpOf R).zipIdx]
    · simp [e2]
      rw [mapGo_mapT tN (fun r => tN ((actsOf b ws).map fun a => (grpOf R).idxOf (comp r a))) (grpOf R)]
      · simp [tL, tabOf]
      · intro r hr
        have hr' := hg.pm r hr
        simp [setS, xe_table_by_3]
        rw [show ws.map (fun W => tN (leadTo (List.range b) W)) = (actsOf b ws).map tN by simp [actsOf], mapGo_mapT tN (fun a => nD ((grpOf R).idxOf (comp r a))) (actsOf b ws)]
        · simp [tN]
        · intro a ha
          have ha' := h.acts a ha
          have e4 := w_acted_comp hr' (hg.pm a ha') h.b2 c
          have e5 := e3 _ (hg.mul r hr a ha') c
          simp [setS, xe_table_by_2, o_table_by, e4, e5]
        · have := h.k; simp [actsOf]; omega
      · omega
    · intro q hq
      simp [setS, xe_table_by_1]
    · simp; omega
  · intro W hW
    obtain ⟨ok, hne, hle⟩ := h.w.ok W hW
    have := w_acting ok hne (by have := h.b2; omega) (by omega) c
    simp [setS, xe_table_by_0, o_table_by, this]
  · have := h.k; omega
theorem w_table_of (c : Cup) : m_table_of [nD b, .tup (ws.map tL)] c = .ok (tL (tabOf (grpOf R) (actsOf b ws))) c := by
  unfold m_table_of
  rw [evF_eq _ _ rfl]
  simp [f_table_of, start, o_table_of, w_need_bells h.b1 h.b2 c, w_need_ways h.w h.k c, w_table_by h c]
end
end PF.K93
end

/-! ## K93u -/
section
/-! K93u: tables and choices. -/
set_option linter.all false
set_option autoImplicit false
set_option maxRecDepth 100000
namespace PF.K93
open PySem PF
section
variable {T : List (List Nat)} {k : Nat} (h : TabOk T k)
include h
theorem ft_loop (c : Cup) : ∀ (its : List (List Nat)) (x y : Option Sl), (∀ it ∈ its, it ∈ T) → ∃ x' y', forGo (.nm 2) (evSs (kinW kinWs) o_fits_table lb_fits_table_0) (its.map tN) [some (.sh (tL T)), some (.sh (nD k)), x, none, y] c = .ok (.nx [some (.sh (tL T)), some (.sh (nD k)), x', none, y']) c
  | [], x, y, _ => ⟨x, y, rfl⟩
  | it :: its, x, y, hs => by
    have hr := h.row it (hs it List.mem_cons_self)
    have e1 : opF .len [tN it] = some (nD k) := by simp [tN, nD, hr.1]
    have e2 : opF .len [tL T] = some (nD T.length) := by simp [tL, nD]
    have e3 := ne_nD k k
    simp only [decide_true, Bool.not_true] at e3
    obtain ⟨x', y', e⟩ := ft_loop c its (some (.sh (tN it))) y fun z hz => hs z (List.mem_cons_of_mem _ hz)
    refine ⟨x', y', ?_⟩
    rw [List.map_cons, for_step (ρ1 := [some (.sh (tL T)), some (.sh (nD k)), some (.sh (tN it)), none, y]) rfl (ρ2 := [some (.sh (tL T)), some (.sh (nD k)), some (.sh (tN it)), none, y]) (c2 := c) ?_]
    · exact e
    · simp [lb_fits_table_0, e1, e3]
      rw [show itemsOf (tN it) = some (it.map nD) from rfl]
      simp
      rw [mapGo_mapT nD (fun _ => D.bl true) it]
      · simp [all_true]
      · intro n hn
        have := isw (hr.2 n hn) c
        simp [setS, xe_fits_table_1, o_fits_table, e2, show nD T.length = .int (T.length : Int) from rfl, this]
      · have := h.k2; omega
theorem w_fits_table (c : Cup) : m_fits_table [tL T] c = .ok (.bl true) c := by
  have n1 := h.n1
  have n2 := h.n2
  have k1 := h.k1
  have k2 := h.k2
  have e1 : m_is_tuple_of [tL T, .int 1, .int 720] c = .ok (.bl true) c := by
    rw [show tL T = .tup (T.map tN) from rfl, w_is_tuple_of]
    simp
    omega
  obtain ⟨x', y', e2⟩ := ft_loop h c T none none fun it hit => hit
  have e3 : opF .len [tL T] = some (nD T.length) := by simp [tL, nD]
  have hr : rngOk 0 (k : Int) = true := rngOk_of (by omega)
  obtain ⟨it0, T', hT⟩ : ∃ it0 T', T = it0 :: T' := by
    cases T with
    | nil => simp at n1
    | cons a b => exact ⟨a, b, rfl⟩
  have e4 : opI c (tL T) (.int 0) = some (tN it0) := by rw [hT]; simp [tL]
  have e5 : opF .len [tN it0] = some (nD k) := by
    have := (h.row it0 (by rw [hT]; simp)).1
    simp [tN, nD, this]
  unfold m_fits_table
  rw [evF_eq _ _ rfl]
  simp [f_fits_table, start, o_fits_table, e1]
  rw [show itemsOf (tL T) = some (T.map tN) from rfl]
  simp
  rw [mapGo_mapT tN (fun _ => D.bl true) T]
  · simp [all_true, e4, e5, setS]
    rw [show itemsOf (tL T) = some (T.map tN) from rfl]
    simp
    rw [e2]
    simp [show nD k = .int (k : Int) from rfl, hr]
    rw [rangeD_nat, mapGo_mapT nD (fun _ => D.bl true) (List.range k)]
    · simp [all_true]
    · intro w hw
      have hw : w < k := by simpa using hw
      have hc := lset_lN (h.col w hw) (by simp; omega)
      rw [List.length_map] at hc
      simp [setS, xe_fits_table_3]
      rw [show itemsOf (tL T) = some (T.map tN) from rfl]
      simp
      rw [mapGo_mapT tN (fun it => nD (it.getD w 0)) T]
      · rw [List.map_map] at hc
        simp only [Function.comp_def, List.getD_eq_getElem?_getD] at hc
        simp [hc, e3, eq_nD]
      · intro it hit
        have := h.row it hit
        have hw2 : w < it.length := by omega
        simp [setS, xe_fits_table_2, tN, nD, hw2]
      · omega
    · simp; omega
  · intro it hit
    have := h.row it hit
    have e6 : m_is_tuple_of [tN it, .int 1, .int 6] c = .ok (.bl true) c := by
      rw [show tN it = .tup (it.map nD) from rfl, w_is_tuple_of]
      simp
      omega
    simp [setS, xe_fits_table_0, o_fits_table, e6]
  · omega
theorem w_need_table (c : Cup) : m_need_table [tL T] c = .ok .non c := by
  unfold m_need_table
  rw [evF_eq _ _ rfl]
  simp [f_need_table, start, o_need_table, w_fits_table h c]
/-- a choice of ways -/
def ChOk (T : List (List Nat)) (k : Nat) (C : List Nat) : Prop := C.length = T.length ∧ ∀ w ∈ C, w < k
def nextsN (T : List (List Nat)) (C : List Nat) : List Nat := (T.zip C).map fun q => q.1.getD q.2 0
theorem w_fits_choice {C : List Nat} (hc : ChOk T k C) (c : Cup) : m_fits_choice [tL T, tN C] c = .ok (.bl true) c := by
  have n1 := h.n1
  have n2 := h.n2
  have e3 : opF .len [tL T] = some (nD T.length) := by simp [tL, nD]
  have e1 : m_is_tuple_of [tN C, nD T.length, nD T.length] c = .ok (.bl true) c := by
    rw [show tN C = .tup (C.map nD) from rfl, show nD T.length = .int (T.length : Int) from rfl, w_is_tuple_of]
    simp [hc.1]
  obtain ⟨it0, T', hT⟩ : ∃ it0 T', T = it0 :: T' := by
    cases T with
    | nil => simp at n1
    | cons a b => exact ⟨a, b, rfl⟩
  have e4 : opI c (tL T) (.int 0) = some (tN it0) := by rw [hT]; simp [tL]
  have e5 : opF .len [tN it0] = some (.int (k : Int)) := by
    have := (h.row it0 (by rw [hT]; simp)).1
    simp [tN, this]
  unfold m_fits_choice
  rw [evF_eq _ _ rfl]
  simp [f_fits_choice, start, o_fits_choice, e3, e1]
  rw [show itemsOf (tN C) = some (C.map nD) from rfl]
  simp
  rw [mapGo_mapT nD (fun _ => D.bl true) C]
  · simp [all_true]
  · intro w hw
    have := isw (hc.2 w hw) c
    simp [setS, xe_fits_choice_0, o_fits_choice, e4, e5, this]
  · rw [hc.1]; omega
theorem w_need_choice {C : List Nat} (hc : ChOk T k C) (c : Cup) : m_need_choice [tL T, tN C] c = .ok .non c := by
  unfold m_need_choice
  rw [evF_eq _ _ rfl]
  simp [f_need_choice, start, o_need_choice, w_fits_choice h hc c]
theorem w_nexts_by {C : List Nat} (hc : ChOk T k C) (c : Cup) : m_nexts_by [tL T, tN C] c = .ok (tN (nextsN T C)) c := by
  have n2 := h.n2
  unfold m_nexts_by
  rw [evF_eq _ _ rfl]
  simp [f_nexts_by, start, show tL T = .tup (T.map tN) from rfl, show tN C = .tup (C.map nD) from rfl, zipD_map tN nD]
  rw [mapGo_mapT (fun q : List Nat × Nat => D.tup [tN q.1, nD q.2]) (fun q => nD (q.1.getD q.2 0)) (T.zip C)]
  · simp [nextsN, tN]
  · intro q hq
    have h1 := (h.row q.1 (List.of_mem_zip hq).1).1
    have h2 := hc.2 q.2 (List.of_mem_zip hq).2
    have h3 : q.2 < q.1.length := by omega
    simp [setS, xe_nexts_by_0, tN, nD, h3]
  · simp; omega
theorem w_next_ones {C : List Nat} (hc : ChOk T k C) (c : Cup) : m_next_ones [tL T, tN C] c = .ok (tN (nextsN T C)) c := by
  unfold m_next_ones
  rw [evF_eq _ _ rfl]
  simp [f_next_ones, start, o_next_ones, w_need_table h c, w_need_choice h hc c, w_nexts_by h hc c]
end
end PF.K93
end

/-! ## K93v -/
section
/-! K93v: leadings. -/
set_option linter.all false
set_option autoImplicit false
set_option maxRecDepth 100000
namespace PF.K93
open PySem PF
/-- a leading: each number once -/
structure LdOk (T : List (List Nat)) (L : List Nat) : Prop where
  len : L.length = T.length
  lt : ∀ x ∈ L, x < T.length
  nd : L.Nodup
section
variable {T : List (List Nat)} {k : Nat} (h : TabOk T k) {L : List Nat} (hL : LdOk T L)
include h hL
theorem w_need_leading (c : Cup) : m_need_leading [tL T, tN L] c = .ok .non c := by
  have n2 := h.n2
  have e0 : opF .len [tL T] = some (.int (T.length : Int)) := by simp [tL]
  have e1 : m_is_tuple_of [tN L, .int (T.length : Int), .int (T.length : Int)] c = .ok (.bl true) c := by
    rw [show tN L = .tup (L.map nD) from rfl, w_is_tuple_of]
    simp [hL.len]
  have e2 : lsetO (tN L) = some (nD L.length) := lset_tN hL.nd (by rw [hL.len]; omega)
  rw [hL.len] at e2
  unfold m_need_leading
  rw [evF_eq _ _ rfl]
  simp [f_need_leading, start, o_need_leading, e0, setS, e1]
  rw [show itemsOf (tN L) = some (L.map nD) from rfl]
  simp
  rw [mapGo_mapT nD (fun _ => D.bl true) L]
  · simp [all_true, e2, nD]
  · intro x hx
    have := isw (hL.lt x hx) c
    simp [setS, xe_need_leading_0, o_need_leading, this]
  · rw [hL.len]; omega
def soD (S : List (List Nat)) : D := .lst (S.map lN)
theorem w_ways_so (c : Cup) : m_ways_so [tL T, tN L] c = .ok (soD (soN T L)) c := by
  have n2 := h.n2
  have k2 := h.k2
  unfold m_ways_so
  rw [evF_eq _ _ rfl]
  simp [f_ways_so, start, show tL T = .tup (T.map tN) from rfl, show tN L = .tup (L.map nD) from rfl, zipD_map tN nD]
  rw [mapGo_mapT (fun q : List Nat × Nat => D.tup [tN q.1, nD q.2]) (fun q => lN ((q.1.zipIdx).filterMap fun p => if p.1 = q.2 then some p.2 else none)) (T.zip L)]
  · simp [soN, soD]
  · intro q hq
    have h1 := (h.row q.1 (List.of_mem_zip hq).1).1
    simp [setS, xe_ways_so_1, show tN q.1 = .tup (q.1.map nD) from rfl]
    rw [enumD_map nD, mapGo_filterT (fun p : Nat × Nat => D.tup [nD p.2, nD p.1]) (fun p : Nat × Nat => if p.1 = q.2 then some (nD p.2) else none) q.1.zipIdx]
    · simp [lN, List.map_filterMap]
    · intro p hp
      by_cases e : p.1 = q.2
      · simp [setS, xc_ways_so_0, xe_ways_so_0, eq_nD, e]
      · simp [setS, xc_ways_so_0, xe_ways_so_0, eq_nD, e]
    · simp; omega
  · simp; omega
theorem soN_len : (soN T L).length = T.length := by simp [soN, hL.len]
theorem w_choice_for (c : Cup) : m_choice_for [tL T, tN L] c = .ok (oF tN (if [] ∈ soN T L then none else some ((soN T L).map fun s => s.headD 0))) c := by
  have n2 := h.n2
  have hl := soN_len h hL
  have e1 := encRL.notin (by omega) [] (soN T L)
  have e1 : opC .notin (.lst []) (soD (soN T L)) = some (!decide ([] ∈ soN T L)) := e1
  unfold m_choice_for
  rw [evF_eq _ _ rfl]
  simp [f_choice_for, start, o_choice_for, w_need_table h c, w_need_leading h hL c, w_ways_so h hL c, setS, e1]
  by_cases z : [] ∈ soN T L
  · simp [z, oF]
  · simp [z, show ∀ S, soD S = .lst (S.map lN) from fun _ => rfl]
    rw [mapGo_mapT lN (fun s => nD (s.headD 0)) (soN T L)]
    · simp [oF, tN, Function.comp_def]
    · intro s hs
      cases s with
      | nil => exact absurd hs z
      | cons a s => simp [setS, xe_choice_for_0, lN]
    · omega
theorem w_first_without (c : Cup) : m_first_without [tL T, tN L] c = .ok (oF nD (if [] ∈ soN T L then some ((soN T L).idxOf []) else none)) c := by
  have e1 := encRL.in_ (by omega) [] (soN T L)
  have e1 : opC .in_ (.lst []) (soD (soN T L)) = some (decide ([] ∈ soN T L)) := e1
  unfold m_first_without
  rw [evF_eq _ _ rfl]
  simp [f_first_without, start, o_first_without, w_need_table h c, w_need_leading h hL c, w_ways_so h hL c, setS, e1]
  by_cases z : [] ∈ soN T L
  · have e2 := encRL.indexL (by omega) z
    have e2 : opM .index (soD (soN T L)) [.lst []] = some (nD ((soN T L).idxOf [])) := e2
    simp [z, oF, show mthOk .index (soD (soN T L)) = some () from rfl, e2]
  · simp [z, oF]
omit h hL in
theorem cf_body (c : Cup) (X Z Y B : D) (e1 : opF .len [Z] = some B) (e2 : opB .mul X B = some Y) : evSs (kinW kinWs) o_count_for lb_count_for_0 [some (.sh (tL T)), some (.sh (tN L)), some (.sh X), some (.sh Z)] c = .ok (.nx [some (.sh (tL T)), some (.sh (tN L)), some (.sh Y), some (.sh Z)]) c := by
  simp [lb_count_for_0, e1, e2, setS]
theorem cf_loop (c : Cup) : ∀ (S : List (List Nat)) (n : Nat) (a : Option Sl), (∀ s ∈ S, s.length ≤ 6) → ∃ a', forGo (.nm 3) (evSs (kinW kinWs) o_count_for lb_count_for_0) (S.map lN) [some (.sh (tL T)), some (.sh (tN L)), some (.sh (nD n)), a] c = .ok (.nx [some (.sh (tL T)), some (.sh (tN L)), some (.sh (nD ((S.map List.length).foldl (· * ·) n))), a']) c
  | [], n, a, _ => ⟨a, rfl⟩
  | s :: S, n, a, hs => by
    obtain ⟨a', e⟩ := cf_loop c S (n * s.length) (some (.sh (lN s))) fun z hz => hs z (List.mem_cons_of_mem _ hz)
    have hl := hs s List.mem_cons_self
    refine ⟨a', ?_⟩
    have e1 : opF .len [lN s] = some (nD s.length) := by simp [lN, nD]
    have e2 := mul_nD n (m := s.length) (by omega)
    rw [List.map_cons, for_step (ρ1 := [some (.sh (tL T)), some (.sh (tN L)), some (.sh (nD n)), some (.sh (lN s))]) rfl (ρ2 := [some (.sh (tL T)), some (.sh (tN L)), some (.sh (nD (n * s.length))), some (.sh (lN s))]) (c2 := c) ?_]
    · exact e
    · exact cf_body c _ _ _ _ e1 e2
theorem so_le6 : ∀ s ∈ soN T L, s.length ≤ 6 := fun s hs => by
  obtain ⟨q, hq, rfl⟩ := List.mem_map.mp hs
  have h1 := (h.row q.1 (List.of_mem_zip hq).1).1
  have h2 := h.k2
  have := List.length_filterMap_le (fun p : Nat × Nat => if p.1 = q.2 then some p.2 else none) q.1.zipIdx
  simp at this
  omega
theorem w_count_for (c : Cup) : m_count_for [tL T, tN L] c = .ok (nD (prodN ((soN T L).map List.length))) c := by
  obtain ⟨a', e⟩ := cf_loop h hL c (soN T L) 1 none (so_le6 h hL)
  unfold m_count_for
  rw [evF_eq _ _ rfl]
  simp [f_count_for, start, o_count_for, tl_count_for_0, tl_count_for_1, tl_count_for_2, tl_count_for_3, w_need_table h c, w_need_leading h hL c, w_ways_so h hL c, setS, show ∀ S, soD S = .lst (S.map lN) from fun _ => rfl, show D.int 1 = nD 1 from rfl]
  rw [e]
  simp [tl_count_for_4, prodN]
end
end PF.K93
end

/-! ## K93x -/
section
/-! K93x: few ways. -/
set_option linter.all false
set_option autoImplicit false
set_option maxRecDepth 100000
namespace PF.K93
open PySem PF
def few5 : List (List (List Nat)) := [[[0, 2]], [[1, 3]], [[0, 2], [1, 3]], [[1, 3], [0, 2]], [[]], [[0, 2], [1, 3], [0, 2]]]
def few6 : List (List (List Nat)) := [[[0, 2, 4]], [[1, 3]], [[0, 2, 4], [1, 3]], [[]], [[1, 3], [0, 2, 4], [1, 3]]]
inductive FewIn : Nat → List (List Nat) → Prop where
  | low {b : Nat} {W : List (List Nat)} (h : b ∈ [2, 3, 4]) (hl : inL b W) (h1 : 1 ≤ W.length) (h2 : W.length ≤ 3) : FewIn b W
  | five {W : List (List Nat)} (h : W ∈ few5) : FewIn 5 W
  | six {W : List (List Nat)} (h : W ∈ few6) : FewIn 6 W
structure FewOk (b : Nat) (ws : List (List (List Nat))) : Prop where
  b1 : 2 ≤ b
  b2 : b ≤ 6
  n1 : 1 ≤ ws.length
  n2 : ws.length ≤ 4
  w : ∀ W ∈ ws, FewIn b W
theorem few5_ok : ∀ W ∈ few5, okLead 5 W ∧ W ≠ [] ∧ W.length ≤ 3 := by unfold okLead fitsCh; decide
theorem few6_ok : ∀ W ∈ few6, okLead 6 W ∧ W ≠ [] ∧ W.length ≤ 3 := by unfold okLead fitsCh; decide
theorem FewIn.ok {b : Nat} {W : List (List Nat)} (h : FewIn b W) : okLead b W ∧ W ≠ [] ∧ W.length ≤ 3 := by
  cases h with
  | low h hl h1 h2 => exact ⟨hl.ok, fun z => by rw [z] at h1; simp at h1, h2⟩
  | five h => exact few5_ok W h
  | six h => exact few6_ok W h
theorem FewOk.wok {b : Nat} {ws : List (List (List Nat))} (h : FewOk b ws) : WOk b ws where
  b2 := h.b2
  b1 := by have := h.b1; omega
  n1 := h.n1
  ok := fun W hW => by
    obtain ⟨h1, h2, h3⟩ := (h.w W hW).ok
    exact ⟨h1, h2, by omega⟩
def wsD (ws : List (List (List Nat))) : D := .tup (ws.map tL)
theorem few_high {xs : List (List (List Nat))} {n : Nat} (a0 a1 a3 : Option Sl) (h0 : xs ≠ []) (hx : xs.length ≤ 10) (hn : n ≤ 10) (c : Cup) (hc : CupOk c) : ∃ (ts : List (List (List Nat))) (c' : Cup),
    mapGo (fun x => (M.pure ([some (.sh .cup), a1, some (.sh (.lst (xs.map tL))), some (.sh x)] : Env)).bind fun ρ' => ((evP (kinW kinWs) o__law_few xe__law_few_0).fst ρ').nox.bind fun d => M.pure (some d)) (rangeD 0 (1 + (n : Int))) [] c = .ok (ts.map tL) c' ∧ ts.length = n + 1 ∧ (∀ W ∈ ts, W ∈ xs) ∧ CupOk c' := by
  obtain ⟨ts, c2, e2, hl, ht, hc2⟩ := mapGo_draw (f := fun x => (M.pure ([some (.sh .cup), a1, some (.sh (.lst (xs.map tL))), some (.sh x)] : Env)).bind fun ρ' => ((evP (kinW kinWs) o__law_few xe__law_few_0).fst ρ').nox.bind fun d => M.pure (some d)) tL (fun W => W ∈ xs) CupOk (fun x c hc => by
    obtain ⟨d, c', e, hd, hc'⟩ := w_some (xs := xs.map tL) (by simpa using h0) (by simp; omega) c hc
    obtain ⟨W, hW, rfl⟩ := List.mem_map.mp hd
    exact ⟨W, c', by simp [xe__law_few_0, o__law_few, e], hW, hc'⟩) (rangeD 0 (1 + (n : Int))) [] c hc (by simp [rangeD]; omega)
  refine ⟨ts, c2, by simpa using e2, ?_, ht, hc2⟩
  rw [hl]
  simp [rangeD]
  omega
theorem few_low {b n : Nat} (hb : b ∈ [2, 3, 4]) (hn : n ≤ 10) (a2 : Option Sl) (c : Cup) (hc : CupOk c) : ∃ (ts : List (List (List Nat))) (c' : Cup),
    mapGo (fun x => (M.pure ([some (.sh .cup), some (.sh (nD b)), a2, some (.sh x)] : Env)).bind fun ρ' => ((evP (kinW kinWs) o__law_few xe__law_few_1).fst ρ').nox.bind fun d => M.pure (some d)) (rangeD 0 (1 + (n : Int))) [] c = .ok (ts.map tL) c' ∧ ts.length = n + 1 ∧ (∀ W ∈ ts, FewIn b W) ∧ CupOk c' := by
  have hb5 : b ∈ [2, 3, 4, 5] := by simp only [List.mem_cons, List.not_mem_nil, or_false] at hb ⊢; omega
  obtain ⟨ts, c2, e2, hl, ht, hc2⟩ := mapGo_draw (f := fun x => (M.pure ([some (.sh .cup), some (.sh (nD b)), a2, some (.sh x)] : Env)).bind fun ρ' => ((evP (kinW kinWs) o__law_few xe__law_few_1).fst ρ').nox.bind fun d => M.pure (some d)) tL (fun W => FewIn b W) CupOk (fun x c hc => by
    obtain ⟨d, c', e, ⟨W, rfl, h1, h2, h3⟩, hc'⟩ := w_lead hb5 (most := 3) (by decide) (by decide) c hc
    exact ⟨W, c', by simp [xe__law_few_1, o__law_few, show D.int 3 = nD 3 from rfl, e], .low hb h1 h2 h3, hc'⟩) (rangeD 0 (1 + (n : Int))) [] c hc (by simp [rangeD]; omega)
  refine ⟨ts, c2, by simpa using e2, ?_, ht, hc2⟩
  rw [hl]
  simp [rangeD]
  omega
theorem w_few : Draws (m__law_few [.cup]) fun d => ∃ b ws, d = .tup [nD b, wsD ws] ∧ FewOk b ws := by
  intro c hc
  obtain ⟨d, c1, e1, hd, hc1⟩ := w_some (xs := [D.int 2, .int 3, .int 3, .int 3, .int 4, .int 4, .int 4, .int 5, .int 6]) (by simp) (by simp) c hc
  have hb : ∃ b, d = nD b ∧ (b ∈ [2, 3, 4] ∨ b = 5 ∨ b = 6) := by
    simp only [List.mem_cons, List.not_mem_nil, or_false] at hd
    rcases hd with rfl | rfl | rfl | rfl | rfl | rfl | rfl | rfl | rfl
    · exact ⟨2, rfl, by decide⟩
    · exact ⟨3, rfl, by decide⟩
    · exact ⟨3, rfl, by decide⟩
    · exact ⟨3, rfl, by decide⟩
    · exact ⟨4, rfl, by decide⟩
    · exact ⟨4, rfl, by decide⟩
    · exact ⟨4, rfl, by decide⟩
    · exact ⟨5, rfl, by decide⟩
    · exact ⟨6, rfl, by decide⟩
  obtain ⟨b, rfl, hb⟩ := hb
  rcases hb with hb | rfl | rfl
  · have g1 := gt_nD b 4
    have hb4 : b ≤ 4 ∧ 2 ≤ b := by simp only [List.mem_cons, List.not_mem_nil, or_false] at hb; omega
    rw [decide_eq_false (by omega)] at g1
    obtain ⟨d, c2, e2, ⟨r, hr, rfl⟩, hc2⟩ := w_roll (many := 4) (by decide) (by decide) c1 hc1
    obtain ⟨ts, c3, e3, hl, ht, hc3⟩ := few_low (b := b) (n := r) hb (by omega) none c2 hc2
    have hr1 : rngOk 0 (1 + (r : Int)) = true := rngOk_of (by omega)
    refine ⟨.tup [nD b, wsD ts], c3, ?_, ⟨b, ts, rfl, hb4.2, by omega, by omega, by omega, ht⟩, hc3⟩
    unfold m__law_few
    rw [evF_eq _ _ rfl]
    simp [f__law_few, start, o__law_few]
    rw [e1]
    simp [setS]
    rw [show opC .gt (nD b) (.int 4) = some false from g1]
    simp
    rw [show D.int 4 = nD 4 from rfl, e2]
    simp [show nD r = .int (r : Int) from rfl, hr1]
    rw [e3]
    simp [wsD]
  · obtain ⟨d, c2, e2, ⟨r, hr, rfl⟩, hc2⟩ := w_roll (many := 3) (by decide) (by decide) c1 hc1
    obtain ⟨ts, c3, e3, hl, ht, hc3⟩ := few_high (xs := few5) (n := r) none (some (.sh (nD 5))) none (by decide) (by decide) (by omega) c2 hc2
    have hr1 : rngOk 0 (1 + (r : Int)) = true := rngOk_of (by omega)
    refine ⟨.tup [nD 5, wsD ts], c3, ?_, ⟨5, ts, rfl, by decide, by decide, by omega, by omega, fun W hW => .five (ht W hW)⟩, hc3⟩
    have g2 := eq_nD 5 6
    unfold m__law_few
    rw [evF_eq _ _ rfl]
    simp [f__law_few, start, o__law_few]
    rw [e1]
    simp [setS]
    rw [show opC .gt (nD 5) (.int 4) = some true from rfl]
    simp
    rw [show opC .eq (nD 5) (.int 6) = some false from rfl]
    simp
    rw [show D.int 3 = nD 3 from rfl, e2]
    simp [show nD r = .int (r : Int) from rfl, hr1]
    rw [show D.lst [.tup [.tup [.int 0, .int 2]], .tup [.tup [.int 1, nD 3]], .tup [.tup [.int 0, .int 2], .tup [.int 1, nD 3]], .tup [.tup [.int 1, nD 3], .tup [.int 0, .int 2]], .tup [.tup []], .tup [.tup [.int 0, .int 2], .tup [.int 1, nD 3], .tup [.int 0, .int 2]]] = .lst (few5.map tL) from rfl, e3]
    simp [wsD]
  · obtain ⟨d, c2, e2, ⟨r, hr, rfl⟩, hc2⟩ := w_roll (many := 3) (by decide) (by decide) c1 hc1
    obtain ⟨ts, c3, e3, hl, ht, hc3⟩ := few_high (xs := few6) (n := r) none (some (.sh (nD 6))) none (by decide) (by decide) (by omega) c2 hc2
    have hr1 : rngOk 0 (1 + (r : Int)) = true := rngOk_of (by omega)
    refine ⟨.tup [nD 6, wsD ts], c3, ?_, ⟨6, ts, rfl, by decide, by decide, by omega, by omega, fun W hW => .six (ht W hW)⟩, hc3⟩
    unfold m__law_few
    rw [evF_eq _ _ rfl]
    simp [f__law_few, start, o__law_few]
    rw [e1]
    simp [setS]
    rw [show opC .gt (nD 6) (.int 4) = some true from rfl]
    simp
    rw [show opC .eq (nD 6) (.int 6) = some true from rfl]
    simp
    rw [show D.int 3 = nD 3 from rfl, e2]
    simp [show nD r = .int (r : Int) from rfl, hr1]
    rw [show D.lst [.tup [.tup [.int 0, .int 2, .int 4]], .tup [.tup [.int 1, nD 3]], .tup [.tup [.int 0, .int 2, .int 4], .tup [.int 1, nD 3]], .tup [.tup []], .tup [.tup [.int 1, nD 3], .tup [.int 0, .int 2, .int 4], .tup [.int 1, nD 3]]] = .lst (few6.map tL) from rfl, e3]
    simp [wsD]
end PF.K93
end

/-! ## K93y -/
section
/-! K93y: leadings to rows, as the law asks. -/
set_option linter.all false
set_option autoImplicit false
set_option maxRecDepth 100000
namespace PF.K93
open PySem PF
theorem pow_body (c : Cup) (X B Y : D) (a1 : D) (i : D) (e : opB .mul X B = some Y) : evSs (kinW kinWs) o__law_power lb__law_power_0 [some (.sh B), some (.sh a1), some (.sh X), some (.sh i)] c = .ok (.nx [some (.sh B), some (.sh a1), some (.sh Y), some (.sh i)]) c := by
  simp [lb__law_power_0, e, setS]
theorem w_power {m n : Nat} (hm : m ≤ 1000) (hn : n ≤ 1000) (c : Cup) : m__law_power [nD m, nD n] c = .ok (nD (prodN (List.replicate n m))) c := by
  have key : ∀ (xs : List D) (x : Nat) (a : Option Sl), ∃ a', forGo (.nm 3) (evSs (kinW kinWs) o__law_power lb__law_power_0) xs [some (.sh (nD m)), some (.sh (nD n)), some (.sh (nD x)), a] c = .ok (.nx [some (.sh (nD m)), some (.sh (nD n)), some (.sh (nD ((List.replicate xs.length m).foldl (· * ·) x))), a']) c := by
    intro xs
    induction xs with
    | nil => intro x a; exact ⟨a, rfl⟩
    | cons d xs ih =>
      intro x a
      obtain ⟨a', e⟩ := ih (x * m) (some (.sh d))
      refine ⟨a', ?_⟩
      have e2 := mul_nD x (m := m) (by omega)
      rw [for_step (ρ1 := [some (.sh (nD m)), some (.sh (nD n)), some (.sh (nD x)), some (.sh d)]) rfl (pow_body c _ _ _ _ _ e2)]
      exact e
  obtain ⟨a', e⟩ := key (rangeD 0 (n : Int)) 1 none
  have hr : rngOk 0 (n : Int) = true := rngOk_of (by omega)
  have hl : (rangeD 0 (n : Int)).length = n := by simp [rangeD]
  rw [hl] at e
  unfold m__law_power
  rw [evF_eq _ _ rfl]
  simp [f__law_power, start, o__law_power, setS, show D.int 1 = nD 1 from rfl]
  rw [show nD n = .int (n : Int) from rfl] at e ⊢
  simp [hr]
  rw [e]
  simp [prodN]
section
variable {b : Nat} {ws : List (List (List Nat))} {R : List WR} (h : Rd b ws R)
include h
theorem own_acts (a0 a1 : Option Sl) (c : Cup) {f : D → M (Option D)} (hf : ∀ W ∈ ws, f (tL W) c = (M.nox (m_acting_row [nD b, tL W])).bind (fun d => M.pure (some d)) c) : mapGo f (ws.map tL) [] c = .ok ((actsOf b ws).map tN) c := by
  rw [mapGo_mapT tL (fun W => tN (leadTo (List.range b) W)) ws]
  · simp [actsOf]
  · intro W hW
    obtain ⟨ok, hne, hle⟩ := h.w.ok W hW
    rw [hf W hW, bind_app, nox_app, w_acting_row h.b1 h.b2 ok hne hle c]
    rfl
  · have := h.k; omega
theorem q_body (c : Cup) (X B Y V : D) (a0 a1 a2 a3 a4 a6 a7 a8 a9 a12 a13 a14 : Option Sl) (A q : D) (e1 : mthOk .count A = some ()) (e2 : opM .count A [q] = some B) (e : opB .mul X B = some Y) :
    evSs (kinW kinWs) o__law_by_quotients lb__law_by_quotients_0 [a0, a1, a2, a3, a4, some (.sh A), a6, a7, a8, a9, some (.sh X), some (.sh q), a12, a13, a14] c = .ok (.nx [a0, a1, a2, a3, a4, some (.sh A), a6, a7, a8, a9, some (.sh Y), some (.sh q), a12, a13, a14]) c := by
  simp [lb__law_by_quotients_0, e1, e2, e, setS]
theorem q_loop (A : List (List Nat)) (hA : A.length ≤ 1000) (c : Cup) (a0 a1 a2 a3 a4 a6 a7 a8 a9 a12 a13 a14 : Option Sl) : ∀ (qs : List (List Nat)) (x : Nat) (a : Option Sl), ∃ a', forGo (.nm 11) (evSs (kinW kinWs) o__law_by_quotients lb__law_by_quotients_0) (qs.map tN) [a0, a1, a2, a3, a4, some (.sh (.lst (A.map tN))), a6, a7, a8, a9, some (.sh (nD x)), a, a12, a13, a14] c =
    .ok (.nx [a0, a1, a2, a3, a4, some (.sh (.lst (A.map tN))), a6, a7, a8, a9, some (.sh (nD ((qs.map fun q => A.count q).foldl (· * ·) x))), a', a12, a13, a14]) c
  | [], x, a => ⟨a, rfl⟩
  | q :: qs, x, a => by
    obtain ⟨a', e⟩ := q_loop A hA c a0 a1 a2 a3 a4 a6 a7 a8 a9 a12 a13 a14 qs (x * A.count q) (some (.sh (tN q)))
    refine ⟨a', ?_⟩
    have e2 := mul_nD x (m := A.count q) (by have := List.count_le_length (a := q) (l := A); omega)
    have e3 := encR.countL (by omega) q A
    rw [List.map_cons, for_step (ρ1 := [a0, a1, a2, a3, a4, some (.sh (.lst (A.map tN))), a6, a7, a8, a9, some (.sh (nD x)), some (.sh (tN q)), a12, a13, a14]) rfl (q_body h c _ _ _ (.non) a0 a1 a2 a3 a4 a6 a7 a8 a9 a12 a13 a14 _ _ rfl e3 e2)]
    exact e
theorem w_by_quotients {f : List Nat → List Nat} (hf : ∀ r ∈ grpOf R, f r ∈ grpOf R) (hi : ∀ r ∈ grpOf R, ∀ s ∈ grpOf R, f r = f s → r = s) (c : Cup) :
    m__law_by_quotients [nD b, .tup (ws.map tL), tL (tabOf (grpOf R) (actsOf b ws)), .tup ((grpOf R).map tN), .lst ((grpOf R).map fun r => tN (f r))] c = .ok (.bl true) c := by
  have hg := h.grp
  have hlen := h.len
  have hA := h.acts
  have hAl : (actsOf b ws).length ≤ 6 := by have := h.k; simpa [actsOf] using this
  have hT := h.tab
  obtain ⟨l1, l2, l3⟩ := lead_ok hg hf hi
  have hL : LdOk (tabOf (grpOf R) (actsOf b ws)) (leadOf (grpOf R) f) := ⟨by rw [l1]; simp [tabOf], fun x hx => by have := l2 x hx; simpa [tabOf] using this, l3⟩
  obtain ⟨r0, G', hG⟩ : ∃ r0 G', grpOf R = r0 :: G' := by
    cases e : grpOf R with
    | nil => have := hg.one; rw [e] at this; cases this
    | cons a l => exact ⟨a, l, rfl⟩
  have hr0 : r0 ∈ grpOf R := by rw [hG]; simp
  have g0 : (grpOf R)[0]? = some r0 := by rw [hG]; rfl
  have e1 := w_number_of h (hf r0 hr0) c
  have e2 := ne_nD ((grpOf R).idxOf (f r0)) ((grpOf R).idxOf (f r0))
  simp only [decide_true, Bool.not_true] at e2
  have e3 := w_first_without hT hL c
  have e4 := w_choice_for hT hL c
  have e5 := w_count_for hT hL c
  have s1 := so_nil hg hA hf
  have s2 := so_first hg hA hf
  have s3 := so_heads hg hA hf
  have s4 := so_counts hg hA hf
  rw [s4] at e5
  have z1 : zipD ((grpOf R).map tN) ((grpOf R).map fun r => tN (f r)) = (grpOf R).map fun r => D.tup [tN r, tN (f r)] := zipD_same tN (fun r => tN (f r)) _
  have en : enumD 0 ((quos b (grpOf R) f).map tN) = (quos b (grpOf R) f).zipIdx.map fun q : List Nat × Nat => D.tup [nD q.2, tN q.1] := enumD_map tN _ 0
  have hql : (quos b (grpOf R) f).length ≤ 720 := by simpa [quos] using hlen
  unfold m__law_by_quotients
  rw [evF_eq _ _ rfl]
  simp [f__law_by_quotients, start, tl__law_by_quotients_0]
  rw [own_acts h none none c]
  · simp [tl__law_by_quotients_1, setS]
    rw [mapGo_mapT (fun r => tN (f r)) (fun r => nD ((grpOf R).idxOf (f r))) (grpOf R)]
    · simp [tl__law_by_quotients_2, setS, g0, o__law_by_quotients, e1, e2]
      rw [show D.tup ((grpOf R).map fun r => nD ((grpOf R).idxOf (f r))) = tN (leadOf (grpOf R) f) by simp [tN, leadOf]]
      simp [tl__law_by_quotients_3, setS, z1]
      rw [mapGo_mapT (fun r => D.tup [tN r, tN (f r)]) (fun r => tN (comp (invP b r) (f r))) (grpOf R)]
      · rw [show ((grpOf R).map fun r => tN (comp (invP b r) (f r))) = (quos b (grpOf R) f).map tN by simp [quos]]
        simp [tl__law_by_quotients_4, setS, en]
        rw [mapGo_filterT (fun q : List Nat × Nat => D.tup [nD q.2, tN q.1]) (fun p => if p.1 ∈ actsOf b ws then none else some (nD p.2)) (quos b (grpOf R) f).zipIdx]
        · rw [show (quos b (grpOf R) f).zipIdx.filterMap (fun p => if p.1 ∈ actsOf b ws then none else some (nD p.2)) = (lacks (actsOf b ws) (quos b (grpOf R) f)).map nD by
            unfold lacks
            rw [List.map_filterMap]
            congr 1
            funext p
            split <;> rfl]
          have n1 := encNat.neNil (by omega) (lacks (actsOf b ws) (quos b (grpOf R) f))
          have n2 := encNat.eqNil (by omega) (lacks (actsOf b ws) (quos b (grpOf R) f))
          obtain ⟨a', e6⟩ := q_loop h (actsOf b ws) (by omega) c (some (.sh (nD b))) (some (.sh (.tup (ws.map tL)))) (some (.sh (tL (tabOf (grpOf R) (actsOf b ws))))) (some (.sh (.tup ((grpOf R).map tN)))) (some (.sh (.lst ((grpOf R).map fun r => tN (f r))))) (some (.sh (tN (leadOf (grpOf R) f)))) (some (.sh (.lst ((quos b (grpOf R) f).map tN)))) (some (.sh (.lst ((lacks (actsOf b ws) (quos b (grpOf R) f)).map nD)))) (some (.sh (if lacks (actsOf b ws) (quos b (grpOf R) f) = [] then tN ((quos b (grpOf R) f).map fun q => (actsOf b ws).idxOf q) else .non))) none none none (quos b (grpOf R) f) 1 none
          have e7 := encNat.opEq (by omega) (prodN ((quos b (grpOf R) f).map fun q => (actsOf b ws).count q)) (prodN ((quos b (grpOf R) f).map fun q => (actsOf b ws).count q))
          simp only [decide_true] at e7
          have en0 : enumD 0 ((actsOf b ws).map tN) = (actsOf b ws).zipIdx.map fun q : List Nat × Nat => D.tup [nD q.2, tN q.1] := enumD_map tN _ 0
          by_cases w : lacks (actsOf b ws) (quos b (grpOf R) f) = []
          · have s1' : [] ∉ soN (tabOf (grpOf R) (actsOf b ws)) (leadOf (grpOf R) f) := fun z => s1.mp z w
            rw [if_neg s1'] at e3 e4
            rw [s3 w] at e4
            have n3 := encON.opNe (by omega) none none
            have n4 := encOT.opEq (by omega) (some ((quos b (grpOf R) f).map fun q => (actsOf b ws).idxOf q)) (some ((quos b (grpOf R) f).map fun q => (actsOf b ws).idxOf q))
            have hA2 := (lacks_facts (quos b (grpOf R) f)).1.mp w
            simp only [w, decide_true, Bool.not_true, List.map_nil] at n1 n2 e6 n3 n4 ⊢
            simp only [if_true] at e6
            simp only [oF] at n3 n4 e3 e4
            simp [tl__law_by_quotients_5, o__law_by_quotients, setS, e3, n1, n3]
            simp [tl__law_by_quotients_6, n2]
            rw [mapGo_mapT tN (fun q => nD ((actsOf b ws).idxOf q)) (quos b (grpOf R) f)]
            · simp
              rw [show D.tup ((quos b (grpOf R) f).map fun q => nD ((actsOf b ws).idxOf q)) = tN ((quos b (grpOf R) f).map fun q => (actsOf b ws).idxOf q) by simp [tN]]
              simp [tl__law_by_quotients_7, tl__law_by_quotients_8, setS, show D.int 1 = nD 1 from rfl]
              rw [e6]
              simp [tl__law_by_quotients_9, o__law_by_quotients, e4, n4, e5]
              simp [prodN] at e7
              simp [prodN, e7]
            · intro q hq
              have := encR.indexL (by omega) (hA2 q hq)
              simp [setS, xe__law_by_quotients_4, mthOk, this]
            · omega
          · have s1' : [] ∈ soN (tabOf (grpOf R) (actsOf b ws)) (leadOf (grpOf R) f) := s1.mpr w
            rw [if_pos s1'] at e3 e4
            have s2' := s2 w
            have n3 := encON.opNe (by omega) (some ((soN (tabOf (grpOf R) (actsOf b ws)) (leadOf (grpOf R) f)).idxOf [])) (some ((soN (tabOf (grpOf R) (actsOf b ws)) (leadOf (grpOf R) f)).idxOf []))
            have n4 := encOT.opEq (by omega) none none
            simp only [w, decide_true, Bool.not_true, decide_false, Bool.not_false] at n1 n2 e6 n3 n4 ⊢
            simp only [if_false] at e6
            simp only [oF] at n3 n4 e3 e4
            simp [tl__law_by_quotients_5, o__law_by_quotients, setS, e3, n1, n3, s2']
            simp [tl__law_by_quotients_6, n2]
            simp [tl__law_by_quotients_7, tl__law_by_quotients_8, setS, show D.int 1 = nD 1 from rfl]
            rw [e6]
            simp [tl__law_by_quotients_9, o__law_by_quotients, e4, n4, e5]
            simp [prodN] at e7
            simp [prodN, e7]
        · intro p hp
          have n5 := encR.notin (by omega) p.1 (actsOf b ws)
          by_cases z : p.1 ∈ actsOf b ws
          · simp only [z, decide_true, Bool.not_true] at n5
            simp [setS, xc__law_by_quotients_0, xe__law_by_quotients_3, n5, z]
          · simp only [z, decide_false, Bool.not_false] at n5
            simp [setS, xc__law_by_quotients_0, xe__law_by_quotients_3, n5, z]
        · simp; omega
      · intro r hr
        have hp := hg.pm r hr
        have hq := hg.pm _ (hf r hr)
        simp [setS, xe__law_by_quotients_2, o__law_by_quotients, w_row_undone hp h.b1 h.b2 c, w_followed_by (invP_perm hp) hq h.b1 h.b2 c]
      · omega
    · intro r hr
      have := encR.indexT (by omega) (hf r hr)
      simp [setS, xe__law_by_quotients_1, mthOk, this]
    · omega
  · intro W hW
    simp [setS, xe__law_by_quotients_0, o__law_by_quotients]
end
end PF.K93
end

/-! ## K93z -/
section
/-! K93z: the law. -/
set_option linter.all false
set_option autoImplicit false
set_option maxRecDepth 100000
namespace PF.K93
open PySem PF
section
variable {b : Nat} {ws : List (List (List Nat))} {R : List WR} (h : Rd b ws R)
include h
theorem w_same_right {i : Nat} (hi : i < ws.length) (c : Cup) :
    m__law_same_right [nD b, .tup (ws.map tL), tL (tabOf (grpOf R) (actsOf b ws)), nD i] c = .ok (.bl true) c := by
  have hg := h.grp
  have hlen := h.len
  have hA := h.acts
  have hAl : (actsOf b ws).length ≤ 6 := by have := h.k; simpa [actsOf] using this
  have hT := h.tab
  have hiA : i < (actsOf b ws).length := by simpa [actsOf] using hi
  obtain ⟨a, ha⟩ : ∃ a, (actsOf b ws)[i]? = some a := ⟨_, List.getElem?_eq_getElem hiA⟩
  have haA : a ∈ actsOf b ws := List.mem_of_getElem? ha
  have haG := hA a haA
  have hp := hg.pm a haG
  have hf : ∀ r ∈ grpOf R, (fun r => comp r a) r ∈ grpOf R := fun r hr => hg.mul r hr a haG
  obtain ⟨l1, l2, l3⟩ := lead_ok hg hf fun r hr s hs e => comp_right_inj hp (hg.pm r hr) (hg.pm s hs) e
  have hL : LdOk (tabOf (grpOf R) (actsOf b ws)) (leadOf (grpOf R) fun r => comp r a) := ⟨by rw [l1]; simp [tabOf], fun x hx => by have := l2 x hx; simpa [tabOf] using this, l3⟩
  have hq : quos b (grpOf R) (fun r => comp r a) = (grpOf R).map fun _ => a := List.map_congr_left fun r hr => by
    show comp (invP b r) (comp r a) = a
    rw [← comp_assoc (hg.pm r hr) hp, comp_inv_left (hg.pm r hr), comp_one_left hp]
  have hw : lacks (actsOf b ws) (quos b (grpOf R) fun r => comp r a) = [] := (lacks_facts _).1.mpr fun q hq' => by
    rw [hq] at hq'
    obtain ⟨_, _, rfl⟩ := List.mem_map.mp hq'
    exact haA
  have s1 : [] ∉ soN (tabOf (grpOf R) (actsOf b ws)) (leadOf (grpOf R) fun r => comp r a) := fun z => (so_nil hg hA hf).mp z hw
  have e3 := w_first_without hT hL c
  have e4 := w_choice_for hT hL c
  have e5 := w_count_for hT hL c
  rw [if_neg s1] at e3 e4
  rw [so_heads hg hA hf hw, hq, List.map_map] at e4
  rw [so_counts hg hA hf, hq, List.map_map] at e5
  have c1 : ∀ x : Nat, (grpOf R).map ((fun q => x) ∘ fun _ => a) = List.replicate (grpOf R).length x := fun x => by
    rw [List.eq_replicate_iff]
    exact ⟨by simp, fun y hy => by obtain ⟨_, _, rfl⟩ := List.mem_map.mp hy; rfl⟩
  rw [show (grpOf R).map ((fun q => (actsOf b ws).idxOf q) ∘ fun _ => a) = List.replicate (grpOf R).length ((actsOf b ws).idxOf a) from c1 _] at e4
  rw [show (grpOf R).map ((fun q => (actsOf b ws).count q) ∘ fun _ => a) = List.replicate (grpOf R).length ((actsOf b ws).count a) from c1 _] at e5
  have hx : (actsOf b ws).idxOf a < (actsOf b ws).length := List.idxOf_lt_length_iff.mpr haA
  have hC : ChOk (tabOf (grpOf R) (actsOf b ws)) ws.length (List.replicate (grpOf R).length ((actsOf b ws).idxOf a)) := ⟨by simp [tabOf], fun w hw => by
    rw [(List.mem_replicate.mp hw).2]
    simpa [actsOf] using hx⟩
  have e6 := w_next_ones hT hC c
  have hn : nextsN (tabOf (grpOf R) (actsOf b ws)) (List.replicate (grpOf R).length ((actsOf b ws).idxOf a)) = leadOf (grpOf R) fun r => comp r a := by
    unfold nextsN
    rw [show List.replicate (grpOf R).length ((actsOf b ws).idxOf a) = (grpOf R).map fun _ => (actsOf b ws).idxOf a from (c1 _).symm]
    unfold tabOf leadOf
    rw [List.zip_map', List.map_map]
    refine List.map_congr_left fun r hr => ?_
    have : (actsOf b ws)[(actsOf b ws).idxOf a]? = some a := by
      rw [List.getElem?_eq_getElem hx]
      simp
    show ((actsOf b ws).map fun x => (grpOf R).idxOf (comp r x)).getD ((actsOf b ws).idxOf a) 0 = _
    rw [List.getD_eq_getElem?_getD, List.getElem?_map, this]
    rfl
  rw [hn] at e6
  have hlead : leadOf (grpOf R) (fun r => comp r a) = (tabOf (grpOf R) (actsOf b ws)).map fun it => it.getD i 0 := by
    unfold leadOf tabOf
    rw [List.map_map]
    refine List.map_congr_left fun r hr => ?_
    show _ = ((actsOf b ws).map fun x => (grpOf R).idxOf (comp r x)).getD i 0
    rw [List.getD_eq_getElem?_getD, List.getElem?_map, ha]
    rfl
  obtain ⟨p1, p2, p3⟩ := placesOf_facts a (actsOf b ws)
  have p3 := p3 haA
  have n1 : 1 ≤ (grpOf R).length := List.length_pos_of_mem hg.one
  have e7 : opF .len [tL (tabOf (grpOf R) (actsOf b ws))] = some (nD (grpOf R).length) := by simp [tL, tabOf, nD]
  have e8 : opB .mul (.tup [nD ((actsOf b ws).idxOf a)]) (nD (grpOf R).length) = some (tN (List.replicate (grpOf R).length ((actsOf b ws).idxOf a))) := by
    have := mul_tN (k := (grpOf R).length) (l := [(actsOf b ws).idxOf a]) n1 (by omega) (by simp)
    rw [show repL (grpOf R).length [(actsOf b ws).idxOf a] = List.replicate (grpOf R).length ((actsOf b ws).idxOf a) by simp [repL]] at this
    exact this
  have e9 := encR.opNe (by omega) (List.replicate (grpOf R).length ((actsOf b ws).idxOf a)) (List.replicate (grpOf R).length ((actsOf b ws).idxOf a))
  have e10 := w_power (m := (actsOf b ws).count a) (n := (grpOf R).length) (by have := List.count_le_length (a := a) (l := actsOf b ws); omega) (by omega) c
  have e11 := ne_nD (prodN (List.replicate (grpOf R).length ((actsOf b ws).count a))) (prodN (List.replicate (grpOf R).length ((actsOf b ws).count a)))
  have e12 := encR.opEq (by omega) (leadOf (grpOf R) fun r => comp r a) (leadOf (grpOf R) fun r => comp r a)
  simp only [decide_true, Bool.not_true] at e9 e11 e12
  have en : enumD 0 ((actsOf b ws).map tN) = (actsOf b ws).zipIdx.map fun q : List Nat × Nat => D.tup [nD q.2, tN q.1] := enumD_map tN _ 0
  unfold m__law_same_right
  rw [evF_eq _ _ rfl]
  simp [f__law_same_right, start, tl__law_same_right_0]
  rw [own_acts h none none c]
  · simp [tl__law_same_right_1, setS, show ∀ T, tL T = .tup (T.map tN) from fun _ => rfl]
    rw [mapGo_mapT tN (fun it => nD (it.getD i 0)) (tabOf (grpOf R) (actsOf b ws))]
    · simp only [bind_app, pure_app]
      rw [show (D.tup ((tabOf (grpOf R) (actsOf b ws)).map tN)) = tL (tabOf (grpOf R) (actsOf b ws)) from rfl]
      simp
      rw [show D.tup ((tabOf (grpOf R) (actsOf b ws)).map fun it => nD (it[i]?.getD 0)) = tN (leadOf (grpOf R) fun r => comp r a) by rw [hlead]; simp [tN]]
      simp [tl__law_same_right_2, setS, en]
      rw [mapGo_filterT (fun q : List Nat × Nat => D.tup [nD q.2, tN q.1]) (fun p => if p.1 = a then some (nD p.2) else none) (actsOf b ws).zipIdx]
      · rw [show (actsOf b ws).zipIdx.filterMap (fun p => if p.1 = a then some (nD p.2) else none) = (placesOf a (actsOf b ws)).map nD by
          unfold placesOf
          rw [List.map_filterMap]
          congr 1
          funext p
          split <;> rfl]
        have e13 : opF .len [.lst ((placesOf a (actsOf b ws)).map nD)] = some (nD ((actsOf b ws).count a)) := by simp [p1, nD]
        simp [tl__law_same_right_3, tl__law_same_right_4, o__law_same_right, setS, e4, oF, p3, e7, e8, e9, e5]
        simp only [p1, show D.int (((actsOf b ws).count a : Nat) : Int) = nD ((actsOf b ws).count a) from rfl]
        simp [e10, e11, tl__law_same_right_5, o__law_same_right, e3, oF, e6, e12, show opC .is .non .non = some true from rfl]
      · intro p hp'
        have e14 := encR.opEq (by omega) p.1 a
        by_cases z : p.1 = a
        · simp only [z, decide_true] at e14
          simp [setS, xc__law_same_right_0, xe__law_same_right_2, ha, show nD i = .int (i : Int) from rfl, z, e14]
        · simp only [z, decide_false] at e14
          simp [setS, xc__law_same_right_0, xe__law_same_right_2, ha, show nD i = .int (i : Int) from rfl, z, e14]
      · simp; omega
    · intro it hit
      have hr := (hT.row it hit).1
      have hl2 : i < it.length := by omega
      simp [setS, xe__law_same_right_1, tN, nD, hl2]
    · have := hT.n2; omega
  · intro W hW
    simp [setS, xe__law_same_right_0, o__law_same_right]
end
end PF.K93
end

/-! ## K93g -/
section
/-! K93g: the law. -/
set_option linter.all false
set_option autoImplicit false
set_option maxRecDepth 100000
namespace PF.K93
open PySem PF
theorem w_right {b : Nat} {ws : List (List (List Nat))} (hw : WOk b ws) (b1 : 2 ≤ b) (hk : ws.length ≤ 6) : Draws (m__law_right [.cup, nD b, wsD ws]) fun d => d = .bl true := by
  intro c hc
  obtain ⟨R, h⟩ := rd_ex hw b1 hk
  have hg := h.grp
  have hlen := h.len
  have n0 := hw.n1
  have n1 : 1 ≤ (grpOf R).length := List.length_pos_of_mem hg.one
  have t1 := fun c => w_table_of h c
  have t2 := fun c => w_group_of h c
  obtain ⟨d, c1, e1, ⟨i, hi, rfl⟩, hc1⟩ := w_roll (many := ws.length) (by omega) (by omega) c hc
  obtain ⟨d, c2, e2, ⟨j, hj, rfl⟩, hc2⟩ := w_roll (many := (grpOf R).length) (by omega) (by omega) c1 hc1
  have l1 : opF .len [.tup (ws.map tL)] = some (nD ws.length) := by simp [nD]
  have l2 : opF .len [.tup ((grpOf R).map tN)] = some (nD (grpOf R).length) := by simp [nD]
  obtain ⟨W, hW⟩ : ∃ W, ws[i]? = some W := ⟨_, List.getElem?_eq_getElem hi⟩
  obtain ⟨s, hs⟩ : ∃ s, (grpOf R)[j]? = some s := ⟨_, List.getElem?_eq_getElem hj⟩
  obtain ⟨okW, hne, hle⟩ := hw.ok W (List.mem_of_getElem? hW)
  have hsG := List.mem_of_getElem? hs
  have ps := hg.pm s hsG
  have hA : leadTo (List.range b) W ∈ grpOf R := h.acts _ (List.mem_map.mpr ⟨W, List.mem_of_getElem? hW, rfl⟩)
  have pa := hg.pm _ hA
  have e3 := w_acting_row b1 h.b2 okW hne hle c2
  have e4 := w_row_undone pa b1 h.b2 c2
  have e5 := w_same_right h hi c2
  have i1 : opI c2 (.tup ((grpOf R).map tN)) (nD j) = some (tN s) := by simp [nD, hs]
  have i2 : opI c2 (.tup (ws.map tL)) (nD i) = some (tL W) := by simp [nD, hW]
  have hI := hg.inv _ hA
  have pI := hg.pm _ hI
  generalize leadTo (List.range b) W = a at *
  have q1 := w_by_quotients h (f := fun r => comp r (invP b a)) (fun r hr => hg.mul r hr _ hI) (fun r hr t ht e => comp_right_inj pI (hg.pm r hr) (hg.pm t ht) e) c2
  have q2 := w_by_quotients h (f := fun r => comp s r) (fun r hr => hg.mul s hsG r hr) (fun r hr t ht e => comp_left_inj ps (hg.pm r hr) (hg.pm t ht) e) c2
  have q3 := w_by_quotients h (f := fun r => comp (comp s r) a) (fun r hr => hg.mul _ (hg.mul s hsG r hr) _ hA) (fun r hr t ht e => comp_left_inj ps (hg.pm r hr) (hg.pm t ht) (comp_right_inj pa (comp_perm ps (hg.pm r hr)) (comp_perm ps (hg.pm t ht)) e)) c2
  have q4 := w_by_quotients h (f := fun r => r) (fun r hr => hr) (fun r hr t ht e => e) c2
  refine ⟨.bl true, c2, ?_, rfl, hc2⟩
  unfold m__law_right wsD
  rw [evF_eq _ _ rfl]
  simp [f__law_right, start, tl__law_right_0, o__law_right, t1, t2, setP, setS]
  simp [tl__law_right_1, o__law_right, l1, l2, e1, e2, i1, setP, setS]
  simp [tl__law_right_2, o__law_right, i2, e3, e4, setS]
  simp [tl__law_right_3, o__law_right, e5]
  simp [tl__law_right_4, setS]
  rw [mapGo_mapT tN (fun r => tN (comp r (invP b a))) (grpOf R)]
  · simp [tl__law_right_5, setS]
    rw [mapGo_mapT tN (fun r => tN (comp s r)) (grpOf R)]
    · simp [tl__law_right_6, o__law_right, q1, q2]
      simp [tl__law_right_7, setS]
      rw [mapGo_mapT (fun r => tN (comp s r)) (fun r => tN (comp (comp s r) a)) (grpOf R)]
      · simp [tl__law_right_8, o__law_right, q3, q4]
      · intro r hr
        simp [setS, xe__law_right_2, o__law_right, i2, e3, w_followed_by (comp_perm ps (hg.pm r hr)) pa b1 h.b2 c2]
      · omega
    · intro r hr
      simp [setS, xe__law_right_1, o__law_right, w_followed_by ps (hg.pm r hr) b1 h.b2 c2]
    · omega
  · intro r hr
    simp [setS, xe__law_right_0, o__law_right, w_followed_by (hg.pm r hr) pI b1 h.b2 c2]
  · omega
theorem law_turn (a0 a2 a3 a4 a5 a6 a7 : Option Sl) (c : Cup) (hc : CupOk c) : ∃ (b6 b7 : Option Sl) (c' : Cup), CupOk c' ∧
    evSs (kinW kinWs) o_law lb_law_0 [a0, some (.sh .cup), a2, a3, a4, a5, a6, a7] c = .ok (.nx [a0, some (.sh .cup), a2, a3, a4, a5, b6, b7]) c' := by
  obtain ⟨d, c1, e1, ⟨b, ws, rfl, hf⟩, hc1⟩ := w_few c hc
  obtain ⟨d, c2, e2, rfl, hc2⟩ := w_right hf.wok hf.b1 (by have := hf.n2; omega) c1 hc1
  refine ⟨some (.sh (nD b)), some (.sh (wsD ws)), c2, hc2, ?_⟩
  simp [lb_law_0, o_law, e1, setS, e2]
theorem tb3 (c : Cup) : m_table_of [.int 3, .tup [.tup [.tup [.int 0]], .tup [.tup [.int 1]]]] c = .ok (tL [[2, 1], [4, 0], [0, 3], [5, 2], [1, 5], [3, 4]]) c := by kernel_rfl
theorem tb2 (c : Cup) : m_table_of [.int 2, .tup [.tup [.tup [.int 0]], .tup [.tup [.int 0]], .tup [.tup []]]] c = .ok (tL [[1, 1, 0], [0, 0, 1]]) c := by kernel_rfl
theorem ch3 (c : Cup) : m_choice_for [tL [[2, 1], [4, 0], [0, 3], [5, 2], [1, 5], [3, 4]], .tup [.int 2, .int 4, .int 0, .int 5, .int 1, .int 3]] c = .ok (tN [0, 0, 0, 0, 0, 0]) c := by kernel_rfl
theorem fw3 (c : Cup) : m_first_without [tL [[2, 1], [4, 0], [0, 3], [5, 2], [1, 5], [3, 4]], .tup [.int 0, .int 1, .int 2, .int 3, .int 4, .int 5]] c = .ok (.int 0) c := by kernel_rfl
theorem ch3b (c : Cup) : m_choice_for [tL [[2, 1], [4, 0], [0, 3], [5, 2], [1, 5], [3, 4]], .tup [.int 5, .int 3, .int 4, .int 1, .int 2, .int 0]] c = .ok .non c := by kernel_rfl
theorem cf2 (c : Cup) : m_count_for [tL [[1, 1, 0], [0, 0, 1]], .tup [.int 1, .int 0]] c = .ok (.int 4) c := by kernel_rfl
theorem ch2 (c : Cup) : m_choice_for [tL [[1, 1, 0], [0, 0, 1]], .tup [.int 0, .int 1]] c = .ok (.tup [.int 2, .int 2]) c := by kernel_rfl
theorem fixed_ok {b : Nat} {ws : List (List (List Nat))} (h1 : 2 ≤ b) (h2 : b ≤ 6) (hn : 1 ≤ ws.length) (h : ∀ W ∈ ws, okLead b W ∧ W ≠ [] ∧ W.length ≤ 24) : WOk b ws := ⟨h2, by omega, h, hn⟩
theorem law_end (a0 a2 a3 a4 a5 a6 a7 : Option Sl) (c : Cup) (hc : CupOk c) : ∃ c', evSs (kinW kinWs) o_law tl_law_2 [a0, some (.sh .cup), a2, a3, a4, a5, a6, a7] c = .ok (.rt (.bl true)) c' := by
  obtain ⟨d, c1, e1, rfl, hc1⟩ := w_right (b := 3) (ws := [[[0]], [[1]]]) (fixed_ok (by decide) (by decide) (by decide) (by unfold okLead fitsCh; decide)) (by decide) (by decide) c hc
  obtain ⟨d, c2, e2, rfl, hc2⟩ := w_right (b := 2) (ws := [[[0]], [[0]], [[]]]) (fixed_ok (by decide) (by decide) (by decide) (by unfold okLead fitsCh; decide)) (by decide) (by decide) c1 hc1
  obtain ⟨d, c3, e3, rfl, hc3⟩ := w_right (b := 4) (ws := [[[0, 2]], [[1]], [[0, 2], [1]]]) (fixed_ok (by decide) (by decide) (by decide) (by unfold okLead fitsCh; decide)) (by decide) (by decide) c2 hc2
  have e1 : m__law_right [.cup, .int 3, .tup [.tup [.tup [.int 0]], .tup [.tup [.int 1]]]] c = .ok (.bl true) c1 := e1
  have e2 : m__law_right [.cup, .int 2, .tup [.tup [.tup [.int 0]], .tup [.tup [.int 0]], .tup [.tup []]]] c1 = .ok (.bl true) c2 := e2
  have e3 : m__law_right [.cup, .int 4, .tup [.tup [.tup [.int 0, .int 2]], .tup [.tup [.int 1]], .tup [.tup [.int 0, .int 2], .tup [.int 1]]]] c2 = .ok (.bl true) c3 := e3
  have m1 : opB .mul (.tup [.int 0]) (.int 6) = some (tN [0, 0, 0, 0, 0, 0]) := rfl
  have n1 : opC .ne (tN [0, 0, 0, 0, 0, 0]) (tN [0, 0, 0, 0, 0, 0]) = some false := rfl
  have n2 : opC .ne (.int 0) (.int 0) = some false := rfl
  have n3 : opC .isnot .non .non = some false := rfl
  have n4 : opC .ne (.int 4) (.int 4) = some false := rfl
  have n5 : opC .ne (.tup [.int 2, .int 2]) (.tup [.int 2, .int 2]) = some false := rfl
  refine ⟨c3, ?_⟩
  simp [tl_law_2, setS]
  simp [tl_law_3, o_law, tb3, setS]
  simp [tl_law_4, o_law, ch3, m1, n1, fw3, n2, ch3b, n3]
  simp [tl_law_5, setS]
  simp [tl_law_6, o_law, tb2, cf2, n4, ch2, n5]
  simp [tl_law_7, o_law, e1, e2, e3]
theorem law_true (ns : List Int) (hn : ns.length ≤ 63) : ∃ b, m_law [.scr ns] none = .ok (.bl true) b := by
  obtain ⟨x, y, e0, hc0⟩ := w_cup hn
  obtain ⟨p6, p7, c1, hc1, e1⟩ := law_turn (some (.sh (.scr ns))) (some (.sh (.int 0))) none none none none none _ hc0
  obtain ⟨q6, q7, c2, hc2, e2⟩ := law_turn (some (.sh (.scr ns))) (some (.sh (.int 1))) none none none p6 p7 _ hc1
  obtain ⟨r6, r7, c3, hc3, e3⟩ := law_turn (some (.sh (.scr ns))) (some (.sh (.int 2))) none none none q6 q7 _ hc2
  have f1 : forGo (.nm 2) (evSs (kinW kinWs) o_law lb_law_0) [.int 0, .int 1, .int 2] [some (.sh (.scr ns)), some (.sh .cup), none, none, none, none, none, none] (some (x, y)) = .ok (.nx [some (.sh (.scr ns)), some (.sh .cup), some (.sh (.int 2)), none, none, none, r6, r7]) c3 := by
    rw [for_step rfl e1, for_step rfl e2, for_step rfl e3]
    rfl
  obtain ⟨c4, e4⟩ := law_end (some (.sh (.scr ns))) (some (.sh (.int 2))) none none none r6 r7 c3 hc3
  refine ⟨c4, ?_⟩
  unfold m_law
  rw [evF_eq _ _ rfl]
  have r3 : rngOk 0 3 = true := by decide
  have r4 : rangeD 0 3 = [.int 0, .int 1, .int 2] := rfl
  simp [f_law, tl_law_0, start, o_law, e0, setS]
  simp [tl_law_1, r3, r4]
  rw [f1]
  simp [e4]
end PF.K93
end

/-! ## K93w -/
section
set_option Elab.async false
set_option linter.all false
set_option autoImplicit false
set_option maxRecDepth 100000
set_option maxHeartbeats 1000000
namespace PF.K93
open PySem L2 PF LamX

def top (i : Nat) : Stmt := PySem.Challenge.pw_rungonce_k93_whole_leadings_by_rows.main.body.getD i (.Pass ⟨0, 0, 0, 0⟩)
def ask : Ask where
  consts := [("FEWEST", 2), ("LONGEST", 24), ("MOST", 6), ("ROWS", 720), ("WAYS_choices", 6), ("WAYS_groups", 6)]
  blts := ["abs", "all", "bool", "dict", "enumerate", "int", "isinstance", "len", "list", "range", "set", "sorted", "tuple", "zip"]
  excs := ["InvalidBells", "InvalidChoice", "InvalidLead", "InvalidLeading", "InvalidRow", "InvalidTable", "InvalidWays"]
  fn := [dD "is_whole" "is_whole" (top 12), dD "is_tuple_of" "is_tuple_of" (top 13), dD "fits_row" "fits_row" (top 14), dD "fits_change" "fits_change" (top 15), dD "rounds_of" "rounds_of" (top 16), dD "changed" "changed" (top 17), dD "acted" "acted" (top 18), dD "undone" "undone" (top 19), dD "need_bells" "need_bells" (top 20), dD "need_row" "need_row" (top 21), dD "followed_by" "followed_by" (top 22), dD "row_undone" "row_undone" (top 23), dD "fits_table" "fits_table" (top 27), dD "fits_choice" "fits_choice" (top 28), dD "need_table" "need_table" (top 29), dD "need_choice" "need_choice" (top 30), dD "nexts_by" "nexts_by" (top 31), dD "next_ones" "next_ones" (top 32), dD "need_leading" "need_leading" (top 34), dD "ways_so" "ways_so" (top 35), dD "choice_for" "choice_for" (top 36), dD "first_without" "first_without" (top 37), dD "count_for" "count_for" (top 38), dD "fits_lead" "fits_lead" (top 41), dD "need_lead" "need_lead" (top 42), dD "rows_by" "rows_by" (top 43), dD "acting" "acting" (top 44), dD "acting_row" "acting_row" (top 45), dD "fit_ways" "fit_ways" (top 48), dD "need_ways" "need_ways" (top 49), dD "roads_in" "roads_in" (top 50), dD "table_by" "table_by" (top 51), dD "group_of" "group_of" (top 52), dD "number_of" "number_of" (top 53), dD "table_of" "table_of" (top 54), dD "_law_cup" "_law_cup" (top 56), dD "_law_roll" "_law_roll" (top 57), dD "_law_some" "_law_some" (top 58), dD "_law_changes" "_law_changes" (top 70), dD "_law_change" "_law_change" (top 71), dD "_law_lead" "_law_lead" (top 72), dD "_law_few" "_law_few" (top 73), dD "_law_power" "_law_power" (top 74), dD "_law_same_right" "_law_same_right" (top 75), dD "_law_by_quotients" "_law_by_quotients" (top 76), dD "_law_right" "_law_right" (top 77), dD "law" "law" (top 78)]
  ch := []
  l := ("", "", "")
  ws := kinWs
/-! is_whole -/
def p_is_whole : List Str := ["value", "low", "high"]
theorem b_is_whole : BindsOk "is_whole" (top 12) p_is_whole := fun _ _ _ _ _ _ us hl => match us, hl with | [_, _, _], _ => rfl
def n_is_whole : List Str := ["value", "low", "high"]
theorem s_is_whole : FnScope n_is_whole p_is_whole (defScope (top 12)) := ⟨rfl, rfl, rfl, by decide +kernel, rfl, by decide +kernel, by decide +kernel⟩
def t_is_whole : List (Str × Nat) := []
theorem c_is_whole : chkSs (ask.tab t_is_whole false) n_is_whole (defScope (top 12)) f_is_whole.body (defBody (top 12)) = true := by decide +kernel
/-! is_tuple_of -/
def p_is_tuple_of : List Str := ["value", "low", "high"]
theorem b_is_tuple_of : BindsOk "is_tuple_of" (top 13) p_is_tuple_of := fun _ _ _ _ _ _ us hl => match us, hl with | [_, _, _], _ => rfl
def n_is_tuple_of : List Str := ["value", "low", "high"]
theorem s_is_tuple_of : FnScope n_is_tuple_of p_is_tuple_of (defScope (top 13)) := ⟨rfl, rfl, rfl, by decide +kernel, rfl, by decide +kernel, by decide +kernel⟩
def t_is_tuple_of : List (Str × Nat) := []
theorem c_is_tuple_of : chkSs (ask.tab t_is_tuple_of false) n_is_tuple_of (defScope (top 13)) f_is_tuple_of.body (defBody (top 13)) = true := by decide +kernel
/-! fits_row -/
def p_fits_row : List Str := ["value", "low", "high"]
theorem b_fits_row : BindsOk "fits_row" (top 14) p_fits_row := fun _ _ _ _ _ _ us hl => match us, hl with | [_, _, _], _ => rfl
def n_fits_row : List Str := ["value", "low", "high", "bell"]
theorem s_fits_row : FnScope n_fits_row p_fits_row (defScope (top 14)) := ⟨rfl, rfl, rfl, by decide +kernel, rfl, by decide +kernel, by decide +kernel⟩
def t_fits_row : List (Str × Nat) := [("is_tuple_of", 3), ("is_whole", 3)]
theorem c_fits_row : chkSs (ask.tab t_fits_row false) n_fits_row (defScope (top 14)) f_fits_row.body (defBody (top 14)) = true := by decide +kernel
/-! fits_change -/
def p_fits_change : List Str := ["bells", "value"]
theorem b_fits_change : BindsOk "fits_change" (top 15) p_fits_change := fun _ _ _ _ _ _ us hl => match us, hl with | [_, _], _ => rfl
def n_fits_change : List Str := ["bells", "value", "one", "other", "place"]
theorem s_fits_change : FnScope n_fits_change p_fits_change (defScope (top 15)) := ⟨rfl, rfl, rfl, by decide +kernel, rfl, by decide +kernel, by decide +kernel⟩
def t_fits_change : List (Str × Nat) := [("is_whole", 3)]
theorem c_fits_change : chkSs (ask.tab t_fits_change false) n_fits_change (defScope (top 15)) f_fits_change.body (defBody (top 15)) = true := by decide +kernel
/-! rounds_of -/
def p_rounds_of : List Str := ["bells"]
theorem b_rounds_of : BindsOk "rounds_of" (top 16) p_rounds_of := fun _ _ _ _ _ _ us hl => match us, hl with | [_], _ => rfl
def n_rounds_of : List Str := ["bells"]
theorem s_rounds_of : FnScope n_rounds_of p_rounds_of (defScope (top 16)) := ⟨rfl, rfl, rfl, by decide +kernel, rfl, by decide +kernel, by decide +kernel⟩
def t_rounds_of : List (Str × Nat) := []
theorem c_rounds_of : chkSs (ask.tab t_rounds_of false) n_rounds_of (defScope (top 16)) f_rounds_of.body (defBody (top 16)) = true := by decide +kernel
/-! changed -/
def p_changed : List Str := ["row", "change"]
theorem b_changed : BindsOk "changed" (top 17) p_changed := fun _ _ _ _ _ _ us hl => match us, hl with | [_, _], _ => rfl
def n_changed : List Str := ["row", "change", "place"]
theorem s_changed : FnScope n_changed p_changed (defScope (top 17)) := ⟨rfl, rfl, rfl, by decide +kernel, rfl, by decide +kernel, by decide +kernel⟩
def t_changed : List (Str × Nat) := []
theorem c_changed : chkSs (ask.tab t_changed false) n_changed (defScope (top 17)) f_changed.body (defBody (top 17)) = true := by decide +kernel
/-! acted -/
def p_acted : List Str := ["row", "other"]
theorem b_acted : BindsOk "acted" (top 18) p_acted := fun _ _ _ _ _ _ us hl => match us, hl with | [_, _], _ => rfl
def n_acted : List Str := ["row", "other", "place"]
theorem s_acted : FnScope n_acted p_acted (defScope (top 18)) := ⟨rfl, rfl, rfl, by decide +kernel, rfl, by decide +kernel, by decide +kernel⟩
def t_acted : List (Str × Nat) := []
theorem c_acted : chkSs (ask.tab t_acted false) n_acted (defScope (top 18)) f_acted.body (defBody (top 18)) = true := by decide +kernel
/-! undone -/
def p_undone : List Str := ["row"]
theorem b_undone : BindsOk "undone" (top 19) p_undone := fun _ _ _ _ _ _ us hl => match us, hl with | [_], _ => rfl
def n_undone : List Str := ["row", "bell"]
theorem s_undone : FnScope n_undone p_undone (defScope (top 19)) := ⟨rfl, rfl, rfl, by decide +kernel, rfl, by decide +kernel, by decide +kernel⟩
def t_undone : List (Str × Nat) := []
theorem c_undone : chkSs (ask.tab t_undone false) n_undone (defScope (top 19)) f_undone.body (defBody (top 19)) = true := by decide +kernel
/-! need_bells -/
def p_need_bells : List Str := ["value"]
theorem b_need_bells : BindsOk "need_bells" (top 20) p_need_bells := fun _ _ _ _ _ _ us hl => match us, hl with | [_], _ => rfl
def n_need_bells : List Str := ["value"]
theorem s_need_bells : FnScope n_need_bells p_need_bells (defScope (top 20)) := ⟨rfl, rfl, rfl, by decide +kernel, rfl, by decide +kernel, by decide +kernel⟩
def t_need_bells : List (Str × Nat) := [("is_whole", 3)]
theorem c_need_bells : chkSs (ask.tab t_need_bells false) n_need_bells (defScope (top 20)) f_need_bells.body (defBody (top 20)) = true := by decide +kernel
/-! need_row -/
def p_need_row : List Str := ["value", "low", "high"]
theorem b_need_row : BindsOk "need_row" (top 21) p_need_row := fun _ _ _ _ _ _ us hl => match us, hl with | [_, _, _], _ => rfl
def n_need_row : List Str := ["value", "low", "high"]
theorem s_need_row : FnScope n_need_row p_need_row (defScope (top 21)) := ⟨rfl, rfl, rfl, by decide +kernel, rfl, by decide +kernel, by decide +kernel⟩
def t_need_row : List (Str × Nat) := [("fits_row", 3)]
theorem c_need_row : chkSs (ask.tab t_need_row false) n_need_row (defScope (top 21)) f_need_row.body (defBody (top 21)) = true := by decide +kernel
/-! followed_by -/
def p_followed_by : List Str := ["row", "other"]
theorem b_followed_by : BindsOk "followed_by" (top 22) p_followed_by := fun _ _ _ _ _ _ us hl => match us, hl with | [_, _], _ => rfl
def n_followed_by : List Str := ["row", "other"]
theorem s_followed_by : FnScope n_followed_by p_followed_by (defScope (top 22)) := ⟨rfl, rfl, rfl, by decide +kernel, rfl, by decide +kernel, by decide +kernel⟩
def t_followed_by : List (Str × Nat) := [("need_row", 3), ("acted", 2)]
theorem c_followed_by : chkSs (ask.tab t_followed_by false) n_followed_by (defScope (top 22)) f_followed_by.body (defBody (top 22)) = true := by decide +kernel
/-! row_undone -/
def p_row_undone : List Str := ["row"]
theorem b_row_undone : BindsOk "row_undone" (top 23) p_row_undone := fun _ _ _ _ _ _ us hl => match us, hl with | [_], _ => rfl
def n_row_undone : List Str := ["row"]
theorem s_row_undone : FnScope n_row_undone p_row_undone (defScope (top 23)) := ⟨rfl, rfl, rfl, by decide +kernel, rfl, by decide +kernel, by decide +kernel⟩
def t_row_undone : List (Str × Nat) := [("need_row", 3), ("undone", 1)]
theorem c_row_undone : chkSs (ask.tab t_row_undone false) n_row_undone (defScope (top 23)) f_row_undone.body (defBody (top 23)) = true := by decide +kernel
/-! fits_table -/
def p_fits_table : List Str := ["value"]
theorem b_fits_table : BindsOk "fits_table" (top 27) p_fits_table := fun _ _ _ _ _ _ us hl => match us, hl with | [_], _ => rfl
def n_fits_table : List Str := ["value", "many", "item", "way", "number"]
theorem s_fits_table : FnScope n_fits_table p_fits_table (defScope (top 27)) := ⟨rfl, rfl, rfl, by decide +kernel, rfl, by decide +kernel, by decide +kernel⟩
def t_fits_table : List (Str × Nat) := [("is_tuple_of", 3), ("is_whole", 3)]
theorem c_fits_table : chkSs (ask.tab t_fits_table false) n_fits_table (defScope (top 27)) f_fits_table.body (defBody (top 27)) = true := by decide +kernel
/-! fits_choice -/
def p_fits_choice : List Str := ["table", "value"]
theorem b_fits_choice : BindsOk "fits_choice" (top 28) p_fits_choice := fun _ _ _ _ _ _ us hl => match us, hl with | [_, _], _ => rfl
def n_fits_choice : List Str := ["table", "value", "way"]
theorem s_fits_choice : FnScope n_fits_choice p_fits_choice (defScope (top 28)) := ⟨rfl, rfl, rfl, by decide +kernel, rfl, by decide +kernel, by decide +kernel⟩
def t_fits_choice : List (Str × Nat) := [("is_tuple_of", 3), ("is_whole", 3)]
theorem c_fits_choice : chkSs (ask.tab t_fits_choice false) n_fits_choice (defScope (top 28)) f_fits_choice.body (defBody (top 28)) = true := by decide +kernel
/-! need_table -/
def p_need_table : List Str := ["value"]
theorem b_need_table : BindsOk "need_table" (top 29) p_need_table := fun _ _ _ _ _ _ us hl => match us, hl with | [_], _ => rfl
def n_need_table : List Str := ["value"]
theorem s_need_table : FnScope n_need_table p_need_table (defScope (top 29)) := ⟨rfl, rfl, rfl, by decide +kernel, rfl, by decide +kernel, by decide +kernel⟩
def t_need_table : List (Str × Nat) := [("fits_table", 1)]
theorem c_need_table : chkSs (ask.tab t_need_table false) n_need_table (defScope (top 29)) f_need_table.body (defBody (top 29)) = true := by decide +kernel
/-! need_choice -/
def p_need_choice : List Str := ["table", "value"]
theorem b_need_choice : BindsOk "need_choice" (top 30) p_need_choice := fun _ _ _ _ _ _ us hl => match us, hl with | [_, _], _ => rfl
def n_need_choice : List Str := ["table", "value"]
theorem s_need_choice : FnScope n_need_choice p_need_choice (defScope (top 30)) := ⟨rfl, rfl, rfl, by decide +kernel, rfl, by decide +kernel, by decide +kernel⟩
def t_need_choice : List (Str × Nat) := [("fits_choice", 2)]
theorem c_need_choice : chkSs (ask.tab t_need_choice false) n_need_choice (defScope (top 30)) f_need_choice.body (defBody (top 30)) = true := by decide +kernel
/-! nexts_by -/
def p_nexts_by : List Str := ["table", "choice"]
theorem b_nexts_by : BindsOk "nexts_by" (top 31) p_nexts_by := fun _ _ _ _ _ _ us hl => match us, hl with | [_, _], _ => rfl
def n_nexts_by : List Str := ["table", "choice", "item", "way"]
theorem s_nexts_by : FnScope n_nexts_by p_nexts_by (defScope (top 31)) := ⟨rfl, rfl, rfl, by decide +kernel, rfl, by decide +kernel, by decide +kernel⟩
def t_nexts_by : List (Str × Nat) := []
theorem c_nexts_by : chkSs (ask.tab t_nexts_by false) n_nexts_by (defScope (top 31)) f_nexts_by.body (defBody (top 31)) = true := by decide +kernel
/-! next_ones -/
def p_next_ones : List Str := ["table", "choice"]
theorem b_next_ones : BindsOk "next_ones" (top 32) p_next_ones := fun _ _ _ _ _ _ us hl => match us, hl with | [_, _], _ => rfl
def n_next_ones : List Str := ["table", "choice"]
theorem s_next_ones : FnScope n_next_ones p_next_ones (defScope (top 32)) := ⟨rfl, rfl, rfl, by decide +kernel, rfl, by decide +kernel, by decide +kernel⟩
def t_next_ones : List (Str × Nat) := [("need_table", 1), ("need_choice", 2), ("nexts_by", 2)]
theorem c_next_ones : chkSs (ask.tab t_next_ones false) n_next_ones (defScope (top 32)) f_next_ones.body (defBody (top 32)) = true := by decide +kernel
/-! need_leading -/
def p_need_leading : List Str := ["table", "value"]
theorem b_need_leading : BindsOk "need_leading" (top 34) p_need_leading := fun _ _ _ _ _ _ us hl => match us, hl with | [_, _], _ => rfl
def n_need_leading : List Str := ["table", "value", "many", "number"]
theorem s_need_leading : FnScope n_need_leading p_need_leading (defScope (top 34)) := ⟨rfl, rfl, rfl, by decide +kernel, rfl, by decide +kernel, by decide +kernel⟩
def t_need_leading : List (Str × Nat) := [("is_tuple_of", 3), ("is_whole", 3)]
theorem c_need_leading : chkSs (ask.tab t_need_leading false) n_need_leading (defScope (top 34)) f_need_leading.body (defBody (top 34)) = true := by decide +kernel
/-! ways_so -/
def p_ways_so : List Str := ["table", "leading"]
theorem b_ways_so : BindsOk "ways_so" (top 35) p_ways_so := fun _ _ _ _ _ _ us hl => match us, hl with | [_, _], _ => rfl
def n_ways_so : List Str := ["table", "leading", "item", "due", "way", "there"]
theorem s_ways_so : FnScope n_ways_so p_ways_so (defScope (top 35)) := ⟨rfl, rfl, rfl, by decide +kernel, rfl, by decide +kernel, by decide +kernel⟩
def t_ways_so : List (Str × Nat) := []
theorem c_ways_so : chkSs (ask.tab t_ways_so false) n_ways_so (defScope (top 35)) f_ways_so.body (defBody (top 35)) = true := by decide +kernel
/-! choice_for -/
def p_choice_for : List Str := ["table", "leading"]
theorem b_choice_for : BindsOk "choice_for" (top 36) p_choice_for := fun _ _ _ _ _ _ us hl => match us, hl with | [_, _], _ => rfl
def n_choice_for : List Str := ["table", "leading", "ways", "some"]
theorem s_choice_for : FnScope n_choice_for p_choice_for (defScope (top 36)) := ⟨rfl, rfl, rfl, by decide +kernel, rfl, by decide +kernel, by decide +kernel⟩
def t_choice_for : List (Str × Nat) := [("need_table", 1), ("need_leading", 2), ("ways_so", 2)]
theorem c_choice_for : chkSs (ask.tab t_choice_for false) n_choice_for (defScope (top 36)) f_choice_for.body (defBody (top 36)) = true := by decide +kernel
/-! first_without -/
def p_first_without : List Str := ["table", "leading"]
theorem b_first_without : BindsOk "first_without" (top 37) p_first_without := fun _ _ _ _ _ _ us hl => match us, hl with | [_, _], _ => rfl
def n_first_without : List Str := ["table", "leading", "ways"]
theorem s_first_without : FnScope n_first_without p_first_without (defScope (top 37)) := ⟨rfl, rfl, rfl, by decide +kernel, rfl, by decide +kernel, by decide +kernel⟩
def t_first_without : List (Str × Nat) := [("need_table", 1), ("need_leading", 2), ("ways_so", 2)]
theorem c_first_without : chkSs (ask.tab t_first_without false) n_first_without (defScope (top 37)) f_first_without.body (defBody (top 37)) = true := by decide +kernel
/-! count_for -/
def p_count_for : List Str := ["table", "leading"]
theorem b_count_for : BindsOk "count_for" (top 38) p_count_for := fun _ _ _ _ _ _ us hl => match us, hl with | [_, _], _ => rfl
def n_count_for : List Str := ["table", "leading", "found", "some"]
theorem s_count_for : FnScope n_count_for p_count_for (defScope (top 38)) := ⟨rfl, rfl, rfl, by decide +kernel, rfl, by decide +kernel, by decide +kernel⟩
def t_count_for : List (Str × Nat) := [("need_table", 1), ("need_leading", 2), ("ways_so", 2)]
theorem c_count_for : chkSs (ask.tab t_count_for false) n_count_for (defScope (top 38)) f_count_for.body (defBody (top 38)) = true := by decide +kernel
/-! fits_lead -/
def p_fits_lead : List Str := ["bells", "value"]
theorem b_fits_lead : BindsOk "fits_lead" (top 41) p_fits_lead := fun _ _ _ _ _ _ us hl => match us, hl with | [_, _], _ => rfl
def n_fits_lead : List Str := ["bells", "value", "change"]
theorem s_fits_lead : FnScope n_fits_lead p_fits_lead (defScope (top 41)) := ⟨rfl, rfl, rfl, by decide +kernel, rfl, by decide +kernel, by decide +kernel⟩
def t_fits_lead : List (Str × Nat) := [("is_tuple_of", 3), ("fits_change", 2)]
theorem c_fits_lead : chkSs (ask.tab t_fits_lead false) n_fits_lead (defScope (top 41)) f_fits_lead.body (defBody (top 41)) = true := by decide +kernel
/-! need_lead -/
def p_need_lead : List Str := ["bells", "value"]
theorem b_need_lead : BindsOk "need_lead" (top 42) p_need_lead := fun _ _ _ _ _ _ us hl => match us, hl with | [_, _], _ => rfl
def n_need_lead : List Str := ["bells", "value"]
theorem s_need_lead : FnScope n_need_lead p_need_lead (defScope (top 42)) := ⟨rfl, rfl, rfl, by decide +kernel, rfl, by decide +kernel, by decide +kernel⟩
def t_need_lead : List (Str × Nat) := [("fits_lead", 2)]
theorem c_need_lead : chkSs (ask.tab t_need_lead false) n_need_lead (defScope (top 42)) f_need_lead.body (defBody (top 42)) = true := by decide +kernel
/-! rows_by -/
def p_rows_by : List Str := ["row", "lead"]
theorem b_rows_by : BindsOk "rows_by" (top 43) p_rows_by := fun _ _ _ _ _ _ us hl => match us, hl with | [_, _], _ => rfl
def n_rows_by : List Str := ["row", "lead", "found", "change"]
theorem s_rows_by : FnScope n_rows_by p_rows_by (defScope (top 43)) := ⟨rfl, rfl, rfl, by decide +kernel, rfl, by decide +kernel, by decide +kernel⟩
def t_rows_by : List (Str × Nat) := [("changed", 2)]
theorem c_rows_by : chkSs (ask.tab t_rows_by false) n_rows_by (defScope (top 43)) f_rows_by.body (defBody (top 43)) = true := by decide +kernel
/-! acting -/
def p_acting : List Str := ["bells", "lead"]
theorem b_acting : BindsOk "acting" (top 44) p_acting := fun _ _ _ _ _ _ us hl => match us, hl with | [_, _], _ => rfl
def n_acting : List Str := ["bells", "lead"]
theorem s_acting : FnScope n_acting p_acting (defScope (top 44)) := ⟨rfl, rfl, rfl, by decide +kernel, rfl, by decide +kernel, by decide +kernel⟩
def t_acting : List (Str × Nat) := [("rows_by", 2), ("rounds_of", 1)]
theorem c_acting : chkSs (ask.tab t_acting false) n_acting (defScope (top 44)) f_acting.body (defBody (top 44)) = true := by decide +kernel
/-! acting_row -/
def p_acting_row : List Str := ["bells", "lead"]
theorem b_acting_row : BindsOk "acting_row" (top 45) p_acting_row := fun _ _ _ _ _ _ us hl => match us, hl with | [_, _], _ => rfl
def n_acting_row : List Str := ["bells", "lead"]
theorem s_acting_row : FnScope n_acting_row p_acting_row (defScope (top 45)) := ⟨rfl, rfl, rfl, by decide +kernel, rfl, by decide +kernel, by decide +kernel⟩
def t_acting_row : List (Str × Nat) := [("need_bells", 1), ("need_lead", 2), ("acting", 2)]
theorem c_acting_row : chkSs (ask.tab t_acting_row false) n_acting_row (defScope (top 45)) f_acting_row.body (defBody (top 45)) = true := by decide +kernel
/-! fit_ways -/
def p_fit_ways : List Str := ["bells", "value"]
theorem b_fit_ways : BindsOk "fit_ways" (top 48) p_fit_ways := fun _ _ _ _ _ _ us hl => match us, hl with | [_, _], _ => rfl
def n_fit_ways : List Str := ["bells", "value", "lead"]
theorem s_fit_ways : FnScope n_fit_ways p_fit_ways (defScope (top 48)) := ⟨rfl, rfl, rfl, by decide +kernel, rfl, by decide +kernel, by decide +kernel⟩
def t_fit_ways : List (Str × Nat) := [("is_tuple_of", 3), ("fits_lead", 2)]
theorem c_fit_ways : chkSs (ask.tab t_fit_ways false) n_fit_ways (defScope (top 48)) f_fit_ways.body (defBody (top 48)) = true := by decide +kernel
/-! need_ways -/
def p_need_ways : List Str := ["bells", "value"]
theorem b_need_ways : BindsOk "need_ways" (top 49) p_need_ways := fun _ _ _ _ _ _ us hl => match us, hl with | [_, _], _ => rfl
def n_need_ways : List Str := ["bells", "value"]
theorem s_need_ways : FnScope n_need_ways p_need_ways (defScope (top 49)) := ⟨rfl, rfl, rfl, by decide +kernel, rfl, by decide +kernel, by decide +kernel⟩
def t_need_ways : List (Str × Nat) := [("fit_ways", 2)]
theorem c_need_ways : chkSs (ask.tab t_need_ways false) n_need_ways (defScope (top 49)) f_need_ways.body (defBody (top 49)) = true := by decide +kernel
/-! roads_in -/
def p_roads_in : List Str := ["bells", "ways"]
theorem b_roads_in : BindsOk "roads_in" (top 50) p_roads_in := fun _ _ _ _ _ _ us hl => match us, hl with | [_, _], _ => rfl
def n_roads_in : List Str := ["bells", "ways", "acts", "first", "found", "line", "later", "row", "lead", "index", "act", "there"]
theorem s_roads_in : FnScope n_roads_in p_roads_in (defScope (top 50)) := ⟨rfl, rfl, rfl, by decide +kernel, rfl, by decide +kernel, by decide +kernel⟩
def t_roads_in : List (Str × Nat) := [("acting", 2), ("rounds_of", 1), ("acted", 2)]
theorem c_roads_in : chkSs (ask.tab t_roads_in false) n_roads_in (defScope (top 50)) f_roads_in.body (defBody (top 50)) = true := by decide +kernel
/-! table_by -/
def p_table_by : List Str := ["bells", "ways"]
theorem b_table_by : BindsOk "table_by" (top 51) p_table_by := fun _ _ _ _ _ _ us hl => match us, hl with | [_, _], _ => rfl
def n_table_by : List Str := ["bells", "ways", "numbers", "acts", "rows", "lead", "row", "at", "act"]
theorem s_table_by : FnScope n_table_by p_table_by (defScope (top 51)) := ⟨rfl, rfl, rfl, by decide +kernel, rfl, by decide +kernel, by decide +kernel⟩
def t_table_by : List (Str × Nat) := [("acting", 2), ("roads_in", 2), ("acted", 2)]
theorem c_table_by : chkSs (ask.tab t_table_by false) n_table_by (defScope (top 51)) f_table_by.body (defBody (top 51)) = true := by decide +kernel
/-! group_of -/
def p_group_of : List Str := ["bells", "ways"]
theorem b_group_of : BindsOk "group_of" (top 52) p_group_of := fun _ _ _ _ _ _ us hl => match us, hl with | [_, _], _ => rfl
def n_group_of : List Str := ["bells", "ways"]
theorem s_group_of : FnScope n_group_of p_group_of (defScope (top 52)) := ⟨rfl, rfl, rfl, by decide +kernel, rfl, by decide +kernel, by decide +kernel⟩
def t_group_of : List (Str × Nat) := [("need_bells", 1), ("need_ways", 2), ("roads_in", 2)]
theorem c_group_of : chkSs (ask.tab t_group_of false) n_group_of (defScope (top 52)) f_group_of.body (defBody (top 52)) = true := by decide +kernel
/-! number_of -/
def p_number_of : List Str := ["bells", "ways", "row"]
theorem b_number_of : BindsOk "number_of" (top 53) p_number_of := fun _ _ _ _ _ _ us hl => match us, hl with | [_, _, _], _ => rfl
def n_number_of : List Str := ["bells", "ways", "row", "rows"]
theorem s_number_of : FnScope n_number_of p_number_of (defScope (top 53)) := ⟨rfl, rfl, rfl, by decide +kernel, rfl, by decide +kernel, by decide +kernel⟩
def t_number_of : List (Str × Nat) := [("need_bells", 1), ("need_ways", 2), ("need_row", 3), ("roads_in", 2)]
theorem c_number_of : chkSs (ask.tab t_number_of false) n_number_of (defScope (top 53)) f_number_of.body (defBody (top 53)) = true := by decide +kernel
/-! table_of -/
def p_table_of : List Str := ["bells", "ways"]
theorem b_table_of : BindsOk "table_of" (top 54) p_table_of := fun _ _ _ _ _ _ us hl => match us, hl with | [_, _], _ => rfl
def n_table_of : List Str := ["bells", "ways"]
theorem s_table_of : FnScope n_table_of p_table_of (defScope (top 54)) := ⟨rfl, rfl, rfl, by decide +kernel, rfl, by decide +kernel, by decide +kernel⟩
def t_table_of : List (Str × Nat) := [("need_bells", 1), ("need_ways", 2), ("table_by", 2)]
theorem c_table_of : chkSs (ask.tab t_table_of false) n_table_of (defScope (top 54)) f_table_of.body (defBody (top 54)) = true := by decide +kernel
/-! _law_cup -/
def p__law_cup : List Str := ["_law_script"]
theorem b__law_cup : BindsOk "_law_cup" (top 56) p__law_cup := fun _ _ _ _ _ _ us hl => match us, hl with | [_], _ => rfl
def n__law_cup : List Str := ["_law_script", "_law_cell"]
theorem s__law_cup : FnScope n__law_cup p__law_cup (defScope (top 56)) := ⟨rfl, rfl, rfl, by decide +kernel, rfl, by decide +kernel, by decide +kernel⟩
def t__law_cup : List (Str × Nat) := []
theorem c__law_cup : chkSs (ask.tab t__law_cup false) n__law_cup (defScope (top 56)) f__law_cup.body (defBody (top 56)) = true := by decide +kernel
/-! _law_roll -/
def p__law_roll : List Str := ["_law_cup_here", "_law_many"]
theorem b__law_roll : BindsOk "_law_roll" (top 57) p__law_roll := fun _ _ _ _ _ _ us hl => match us, hl with | [_, _], _ => rfl
def n__law_roll : List Str := ["_law_cup_here", "_law_many", "_law_deep", "_law_found"]
theorem s__law_roll : FnScope n__law_roll p__law_roll (defScope (top 57)) := ⟨rfl, rfl, rfl, by decide +kernel, rfl, by decide +kernel, by decide +kernel⟩
def t__law_roll : List (Str × Nat) := []
theorem c__law_roll : chkSs (ask.tab t__law_roll false) n__law_roll (defScope (top 57)) f__law_roll.body (defBody (top 57)) = true := by decide +kernel
/-! _law_some -/
def p__law_some : List Str := ["_law_cup_here", "_law_things"]
theorem b__law_some : BindsOk "_law_some" (top 58) p__law_some := fun _ _ _ _ _ _ us hl => match us, hl with | [_, _], _ => rfl
def n__law_some : List Str := ["_law_cup_here", "_law_things"]
theorem s__law_some : FnScope n__law_some p__law_some (defScope (top 58)) := ⟨rfl, rfl, rfl, by decide +kernel, rfl, by decide +kernel, by decide +kernel⟩
def t__law_some : List (Str × Nat) := [("_law_roll", 2)]
theorem c__law_some : chkSs (ask.tab t__law_some false) n__law_some (defScope (top 58)) f__law_some.body (defBody (top 58)) = true := by decide +kernel
/-! _law_changes -/
def p__law_changes : List Str := ["_law_bells"]
theorem b__law_changes : BindsOk "_law_changes" (top 70) p__law_changes := fun _ _ _ _ _ _ us hl => match us, hl with | [_], _ => rfl
def n__law_changes : List Str := ["_law_bells", "_law_found", "_law_place", "_law_change_here"]
theorem s__law_changes : FnScope n__law_changes p__law_changes (defScope (top 70)) := ⟨rfl, rfl, rfl, by decide +kernel, rfl, by decide +kernel, by decide +kernel⟩
def t__law_changes : List (Str × Nat) := []
theorem c__law_changes : chkSs (ask.tab t__law_changes false) n__law_changes (defScope (top 70)) f__law_changes.body (defBody (top 70)) = true := by decide +kernel
/-! _law_change -/
def p__law_change : List Str := ["_law_cup_here", "_law_bells"]
theorem b__law_change : BindsOk "_law_change" (top 71) p__law_change := fun _ _ _ _ _ _ us hl => match us, hl with | [_, _], _ => rfl
def n__law_change : List Str := ["_law_cup_here", "_law_bells", "_law_some_here"]
theorem s__law_change : FnScope n__law_change p__law_change (defScope (top 71)) := ⟨rfl, rfl, rfl, by decide +kernel, rfl, by decide +kernel, by decide +kernel⟩
def t__law_change : List (Str × Nat) := [("_law_changes", 1), ("_law_some", 2)]
theorem c__law_change : chkSs (ask.tab t__law_change false) n__law_change (defScope (top 71)) f__law_change.body (defBody (top 71)) = true := by decide +kernel
/-! _law_lead -/
def p__law_lead : List Str := ["_law_cup_here", "_law_bells", "_law_most"]
theorem b__law_lead : BindsOk "_law_lead" (top 72) p__law_lead := fun _ _ _ _ _ _ us hl => match us, hl with | [_, _, _], _ => rfl
def n__law_lead : List Str := ["_law_cup_here", "_law_bells", "_law_most", "_law_turn"]
theorem s__law_lead : FnScope n__law_lead p__law_lead (defScope (top 72)) := ⟨rfl, rfl, rfl, by decide +kernel, rfl, by decide +kernel, by decide +kernel⟩
def t__law_lead : List (Str × Nat) := [("_law_roll", 2), ("_law_change", 2)]
theorem c__law_lead : chkSs (ask.tab t__law_lead false) n__law_lead (defScope (top 72)) f__law_lead.body (defBody (top 72)) = true := by decide +kernel
/-! _law_few -/
def p__law_few : List Str := ["_law_cup_here"]
theorem b__law_few : BindsOk "_law_few" (top 73) p__law_few := fun _ _ _ _ _ _ us hl => match us, hl with | [_], _ => rfl
def n__law_few : List Str := ["_law_cup_here", "_law_bells", "_law_some_here", "_law_turn"]
theorem s__law_few : FnScope n__law_few p__law_few (defScope (top 73)) := ⟨rfl, rfl, rfl, by decide +kernel, rfl, by decide +kernel, by decide +kernel⟩
def t__law_few : List (Str × Nat) := [("_law_some", 2), ("_law_roll", 2), ("_law_lead", 3)]
theorem c__law_few : chkSs (ask.tab t__law_few false) n__law_few (defScope (top 73)) f__law_few.body (defBody (top 73)) = true := by decide +kernel
/-! _law_power -/
def p__law_power : List Str := ["_law_base", "_law_many"]
theorem b__law_power : BindsOk "_law_power" (top 74) p__law_power := fun _ _ _ _ _ _ us hl => match us, hl with | [_, _], _ => rfl
def n__law_power : List Str := ["_law_base", "_law_many", "_law_found", "_law_turn"]
theorem s__law_power : FnScope n__law_power p__law_power (defScope (top 74)) := ⟨rfl, rfl, rfl, by decide +kernel, rfl, by decide +kernel, by decide +kernel⟩
def t__law_power : List (Str × Nat) := []
theorem c__law_power : chkSs (ask.tab t__law_power false) n__law_power (defScope (top 74)) f__law_power.body (defBody (top 74)) = true := by decide +kernel
/-! _law_same_right -/
def p__law_same_right : List Str := ["_law_bells", "_law_ways", "_law_table_here", "_law_index"]
theorem b__law_same_right : BindsOk "_law_same_right" (top 75) p__law_same_right := fun _ _ _ _ _ _ us hl => match us, hl with | [_, _, _, _], _ => rfl
def n__law_same_right : List Str := ["_law_bells", "_law_ways", "_law_table_here", "_law_index", "_law_own", "_law_leading", "_law_alike", "_law_choice", "_law_way", "_law_item", "_law_at", "_law_row"]
theorem s__law_same_right : FnScope n__law_same_right p__law_same_right (defScope (top 75)) := ⟨rfl, rfl, rfl, by decide +kernel, rfl, by decide +kernel, by decide +kernel⟩
def t__law_same_right : List (Str × Nat) := [("acting_row", 2), ("choice_for", 2), ("count_for", 2), ("_law_power", 2), ("first_without", 2), ("next_ones", 2)]
theorem c__law_same_right : chkSs (ask.tab t__law_same_right false) n__law_same_right (defScope (top 75)) f__law_same_right.body (defBody (top 75)) = true := by decide +kernel
/-! _law_by_quotients -/
def p__law_by_quotients : List Str := ["_law_bells", "_law_ways", "_law_table_here", "_law_group", "_law_rows"]
theorem b__law_by_quotients : BindsOk "_law_by_quotients" (top 76) p__law_by_quotients := fun _ _ _ _ _ _ us hl => match us, hl with | [_, _, _, _, _], _ => rfl
def n__law_by_quotients : List Str := ["_law_bells", "_law_ways", "_law_table_here", "_law_group", "_law_rows", "_law_own", "_law_leading", "_law_quotients", "_law_without", "_law_due", "_law_many", "_law_row", "_law_way", "_law_there", "_law_at"]
theorem s__law_by_quotients : FnScope n__law_by_quotients p__law_by_quotients (defScope (top 76)) := ⟨rfl, rfl, rfl, by decide +kernel, rfl, by decide +kernel, by decide +kernel⟩
def t__law_by_quotients : List (Str × Nat) := [("acting_row", 2), ("number_of", 3), ("followed_by", 2), ("row_undone", 1), ("first_without", 2), ("choice_for", 2), ("count_for", 2)]
theorem c__law_by_quotients : chkSs (ask.tab t__law_by_quotients false) n__law_by_quotients (defScope (top 76)) f__law_by_quotients.body (defBody (top 76)) = true := by decide +kernel
/-! _law_right -/
def p__law_right : List Str := ["_law_cup_here", "_law_bells", "_law_ways"]
theorem b__law_right : BindsOk "_law_right" (top 77) p__law_right := fun _ _ _ _ _ _ us hl => match us, hl with | [_, _, _], _ => rfl
def n__law_right : List Str := ["_law_cup_here", "_law_bells", "_law_ways", "_law_undone", "_law_behind_here", "_law_before", "_law_mixed", "_law_table_here", "_law_group", "_law_index", "_law_ahead", "_law_row"]
theorem s__law_right : FnScope n__law_right p__law_right (defScope (top 77)) := ⟨rfl, rfl, rfl, by decide +kernel, rfl, by decide +kernel, by decide +kernel⟩
def t__law_right : List (Str × Nat) := [("table_of", 2), ("group_of", 2), ("_law_roll", 2), ("row_undone", 1), ("acting_row", 2), ("_law_same_right", 4), ("followed_by", 2), ("_law_by_quotients", 5)]
theorem c__law_right : chkSs (ask.tab t__law_right false) n__law_right (defScope (top 77)) f__law_right.body (defBody (top 77)) = true := by decide +kernel
/-! law -/
def p_law : List Str := ["_law_script"]
theorem b_law : BindsOk "law" (top 78) p_law := fun _ _ _ _ _ _ us hl => match us, hl with | [_], _ => rfl
def n_law : List Str := ["_law_script", "_law_cup_here", "_law_turn", "_law_hunt", "_law_table_here", "_law_same", "_law_bells", "_law_ways"]
theorem s_law : FnScope n_law p_law (defScope (top 78)) := ⟨rfl, rfl, rfl, by decide +kernel, rfl, by decide +kernel, by decide +kernel⟩
def t_law : List (Str × Nat) := [("_law_cup", 1), ("_law_few", 1), ("_law_right", 3), ("table_of", 2), ("choice_for", 2), ("first_without", 2), ("count_for", 2)]
theorem c_law : chkSs (ask.tab t_law false) n_law (defScope (top 78)) f_law.body (defBody (top 78)) = true := by decide +kernel
section
variable {Pr : Program} {w : World} {K : PySem.W.Frag} {mg : Str → Option Value} {base h : Heap} {c P : Addr}
theorem ok_is_whole (s : ask.Says K c P h) (G : h.Ns mainGlobals mg) : Callee Pr w K mg base 1 "is_whole" 3 m_is_whole := by
  obtain ⟨fd, D⟩ := s.defOk (x := "is_whole") G 0 rfl b_is_whole
  exact callee_mk (s.modT G t_is_whole false) D s_is_whole rfl rfl (by decide) trivial c_is_whole
theorem ok_is_tuple_of (s : ask.Says K c P h) (G : h.Ns mainGlobals mg) : Callee Pr w K mg base 1 "is_tuple_of" 3 m_is_tuple_of := by
  obtain ⟨fd, D⟩ := s.defOk (x := "is_tuple_of") G 1 rfl b_is_tuple_of
  exact callee_mk (s.modT G t_is_tuple_of false) D s_is_tuple_of rfl rfl (by decide) trivial c_is_tuple_of
theorem ok_fits_row (s : ask.Says K c P h) (G : h.Ns mainGlobals mg) : Callee Pr w K mg base 2 "fits_row" 3 m_fits_row := by
  obtain ⟨fd, D⟩ := s.defOk (x := "fits_row") G 2 rfl b_fits_row
  exact callee_mk (s.modT G t_fits_row false) D s_fits_row rfl rfl (by decide) ⟨(ok_is_tuple_of s G), (ok_is_whole s G), trivial⟩ c_fits_row
theorem ok_fits_change (s : ask.Says K c P h) (G : h.Ns mainGlobals mg) : Callee Pr w K mg base 2 "fits_change" 2 m_fits_change := by
  obtain ⟨fd, D⟩ := s.defOk (x := "fits_change") G 3 rfl b_fits_change
  exact callee_mk (s.modT G t_fits_change false) D s_fits_change rfl rfl (by decide) ⟨(ok_is_whole s G), trivial⟩ c_fits_change
theorem ok_rounds_of (s : ask.Says K c P h) (G : h.Ns mainGlobals mg) : Callee Pr w K mg base 1 "rounds_of" 1 m_rounds_of := by
  obtain ⟨fd, D⟩ := s.defOk (x := "rounds_of") G 4 rfl b_rounds_of
  exact callee_mk (s.modT G t_rounds_of false) D s_rounds_of rfl rfl (by decide) trivial c_rounds_of
theorem ok_changed (s : ask.Says K c P h) (G : h.Ns mainGlobals mg) : Callee Pr w K mg base 1 "changed" 2 m_changed := by
  obtain ⟨fd, D⟩ := s.defOk (x := "changed") G 5 rfl b_changed
  exact callee_mk (s.modT G t_changed false) D s_changed rfl rfl (by decide) trivial c_changed
theorem ok_acted (s : ask.Says K c P h) (G : h.Ns mainGlobals mg) : Callee Pr w K mg base 1 "acted" 2 m_acted := by
  obtain ⟨fd, D⟩ := s.defOk (x := "acted") G 6 rfl b_acted
  exact callee_mk (s.modT G t_acted false) D s_acted rfl rfl (by decide) trivial c_acted
theorem ok_undone (s : ask.Says K c P h) (G : h.Ns mainGlobals mg) : Callee Pr w K mg base 1 "undone" 1 m_undone := by
  obtain ⟨fd, D⟩ := s.defOk (x := "undone") G 7 rfl b_undone
  exact callee_mk (s.modT G t_undone false) D s_undone rfl rfl (by decide) trivial c_undone
theorem ok_need_bells (s : ask.Says K c P h) (G : h.Ns mainGlobals mg) : Callee Pr w K mg base 2 "need_bells" 1 m_need_bells := by
  obtain ⟨fd, D⟩ := s.defOk (x := "need_bells") G 8 rfl b_need_bells
  exact callee_mk (s.modT G t_need_bells false) D s_need_bells rfl rfl (by decide) ⟨(ok_is_whole s G), trivial⟩ c_need_bells
theorem ok_need_row (s : ask.Says K c P h) (G : h.Ns mainGlobals mg) : Callee Pr w K mg base 3 "need_row" 3 m_need_row := by
  obtain ⟨fd, D⟩ := s.defOk (x := "need_row") G 9 rfl b_need_row
  exact callee_mk (s.modT G t_need_row false) D s_need_row rfl rfl (by decide) ⟨(ok_fits_row s G), trivial⟩ c_need_row
theorem ok_followed_by (s : ask.Says K c P h) (G : h.Ns mainGlobals mg) : Callee Pr w K mg base 4 "followed_by" 2 m_followed_by := by
  obtain ⟨fd, D⟩ := s.defOk (x := "followed_by") G 10 rfl b_followed_by
  exact callee_mk (s.modT G t_followed_by false) D s_followed_by rfl rfl (by decide) ⟨(ok_need_row s G), ((ok_acted s G).mono (by decide)), trivial⟩ c_followed_by
theorem ok_row_undone (s : ask.Says K c P h) (G : h.Ns mainGlobals mg) : Callee Pr w K mg base 4 "row_undone" 1 m_row_undone := by
  obtain ⟨fd, D⟩ := s.defOk (x := "row_undone") G 11 rfl b_row_undone
  exact callee_mk (s.modT G t_row_undone false) D s_row_undone rfl rfl (by decide) ⟨(ok_need_row s G), ((ok_undone s G).mono (by decide)), trivial⟩ c_row_undone
theorem ok_fits_table (s : ask.Says K c P h) (G : h.Ns mainGlobals mg) : Callee Pr w K mg base 2 "fits_table" 1 m_fits_table := by
  obtain ⟨fd, D⟩ := s.defOk (x := "fits_table") G 12 rfl b_fits_table
  exact callee_mk (s.modT G t_fits_table false) D s_fits_table rfl rfl (by decide) ⟨(ok_is_tuple_of s G), (ok_is_whole s G), trivial⟩ c_fits_table
theorem ok_fits_choice (s : ask.Says K c P h) (G : h.Ns mainGlobals mg) : Callee Pr w K mg base 2 "fits_choice" 2 m_fits_choice := by
  obtain ⟨fd, D⟩ := s.defOk (x := "fits_choice") G 13 rfl b_fits_choice
  exact callee_mk (s.modT G t_fits_choice false) D s_fits_choice rfl rfl (by decide) ⟨(ok_is_tuple_of s G), (ok_is_whole s G), trivial⟩ c_fits_choice
theorem ok_need_table (s : ask.Says K c P h) (G : h.Ns mainGlobals mg) : Callee Pr w K mg base 3 "need_table" 1 m_need_table := by
  obtain ⟨fd, D⟩ := s.defOk (x := "need_table") G 14 rfl b_need_table
  exact callee_mk (s.modT G t_need_table false) D s_need_table rfl rfl (by decide) ⟨(ok_fits_table s G), trivial⟩ c_need_table
theorem ok_need_choice (s : ask.Says K c P h) (G : h.Ns mainGlobals mg) : Callee Pr w K mg base 3 "need_choice" 2 m_need_choice := by
  obtain ⟨fd, D⟩ := s.defOk (x := "need_choice") G 15 rfl b_need_choice
  exact callee_mk (s.modT G t_need_choice false) D s_need_choice rfl rfl (by decide) ⟨(ok_fits_choice s G), trivial⟩ c_need_choice
theorem ok_nexts_by (s : ask.Says K c P h) (G : h.Ns mainGlobals mg) : Callee Pr w K mg base 1 "nexts_by" 2 m_nexts_by := by
  obtain ⟨fd, D⟩ := s.defOk (x := "nexts_by") G 16 rfl b_nexts_by
  exact callee_mk (s.modT G t_nexts_by false) D s_nexts_by rfl rfl (by decide) trivial c_nexts_by
theorem ok_next_ones (s : ask.Says K c P h) (G : h.Ns mainGlobals mg) : Callee Pr w K mg base 4 "next_ones" 2 m_next_ones := by
  obtain ⟨fd, D⟩ := s.defOk (x := "next_ones") G 17 rfl b_next_ones
  exact callee_mk (s.modT G t_next_ones false) D s_next_ones rfl rfl (by decide) ⟨(ok_need_table s G), (ok_need_choice s G), ((ok_nexts_by s G).mono (by decide)), trivial⟩ c_next_ones
theorem ok_need_leading (s : ask.Says K c P h) (G : h.Ns mainGlobals mg) : Callee Pr w K mg base 2 "need_leading" 2 m_need_leading := by
  obtain ⟨fd, D⟩ := s.defOk (x := "need_leading") G 18 rfl b_need_leading
  exact callee_mk (s.modT G t_need_leading false) D s_need_leading rfl rfl (by decide) ⟨(ok_is_tuple_of s G), (ok_is_whole s G), trivial⟩ c_need_leading
theorem ok_ways_so (s : ask.Says K c P h) (G : h.Ns mainGlobals mg) : Callee Pr w K mg base 1 "ways_so" 2 m_ways_so := by
  obtain ⟨fd, D⟩ := s.defOk (x := "ways_so") G 19 rfl b_ways_so
  exact callee_mk (s.modT G t_ways_so false) D s_ways_so rfl rfl (by decide) trivial c_ways_so
theorem ok_choice_for (s : ask.Says K c P h) (G : h.Ns mainGlobals mg) : Callee Pr w K mg base 4 "choice_for" 2 m_choice_for := by
  obtain ⟨fd, D⟩ := s.defOk (x := "choice_for") G 20 rfl b_choice_for
  exact callee_mk (s.modT G t_choice_for false) D s_choice_for rfl rfl (by decide) ⟨(ok_need_table s G), ((ok_need_leading s G).mono (by decide)), ((ok_ways_so s G).mono (by decide)), trivial⟩ c_choice_for
theorem ok_first_without (s : ask.Says K c P h) (G : h.Ns mainGlobals mg) : Callee Pr w K mg base 4 "first_without" 2 m_first_without := by
  obtain ⟨fd, D⟩ := s.defOk (x := "first_without") G 21 rfl b_first_without
  exact callee_mk (s.modT G t_first_without false) D s_first_without rfl rfl (by decide) ⟨(ok_need_table s G), ((ok_need_leading s G).mono (by decide)), ((ok_ways_so s G).mono (by decide)), trivial⟩ c_first_without
theorem ok_count_for (s : ask.Says K c P h) (G : h.Ns mainGlobals mg) : Callee Pr w K mg base 4 "count_for" 2 m_count_for := by
  obtain ⟨fd, D⟩ := s.defOk (x := "count_for") G 22 rfl b_count_for
  exact callee_mk (s.modT G t_count_for false) D s_count_for rfl rfl (by decide) ⟨(ok_need_table s G), ((ok_need_leading s G).mono (by decide)), ((ok_ways_so s G).mono (by decide)), trivial⟩ c_count_for
theorem ok_fits_lead (s : ask.Says K c P h) (G : h.Ns mainGlobals mg) : Callee Pr w K mg base 3 "fits_lead" 2 m_fits_lead := by
  obtain ⟨fd, D⟩ := s.defOk (x := "fits_lead") G 23 rfl b_fits_lead
  exact callee_mk (s.modT G t_fits_lead false) D s_fits_lead rfl rfl (by decide) ⟨((ok_is_tuple_of s G).mono (by decide)), (ok_fits_change s G), trivial⟩ c_fits_lead
theorem ok_need_lead (s : ask.Says K c P h) (G : h.Ns mainGlobals mg) : Callee Pr w K mg base 4 "need_lead" 2 m_need_lead := by
  obtain ⟨fd, D⟩ := s.defOk (x := "need_lead") G 24 rfl b_need_lead
  exact callee_mk (s.modT G t_need_lead false) D s_need_lead rfl rfl (by decide) ⟨(ok_fits_lead s G), trivial⟩ c_need_lead
theorem ok_rows_by (s : ask.Says K c P h) (G : h.Ns mainGlobals mg) : Callee Pr w K mg base 2 "rows_by" 2 m_rows_by := by
  obtain ⟨fd, D⟩ := s.defOk (x := "rows_by") G 25 rfl b_rows_by
  exact callee_mk (s.modT G t_rows_by false) D s_rows_by rfl rfl (by decide) ⟨(ok_changed s G), trivial⟩ c_rows_by
theorem ok_acting (s : ask.Says K c P h) (G : h.Ns mainGlobals mg) : Callee Pr w K mg base 3 "acting" 2 m_acting := by
  obtain ⟨fd, D⟩ := s.defOk (x := "acting") G 26 rfl b_acting
  exact callee_mk (s.modT G t_acting false) D s_acting rfl rfl (by decide) ⟨(ok_rows_by s G), ((ok_rounds_of s G).mono (by decide)), trivial⟩ c_acting
theorem ok_acting_row (s : ask.Says K c P h) (G : h.Ns mainGlobals mg) : Callee Pr w K mg base 5 "acting_row" 2 m_acting_row := by
  obtain ⟨fd, D⟩ := s.defOk (x := "acting_row") G 27 rfl b_acting_row
  exact callee_mk (s.modT G t_acting_row false) D s_acting_row rfl rfl (by decide) ⟨((ok_need_bells s G).mono (by decide)), (ok_need_lead s G), ((ok_acting s G).mono (by decide)), trivial⟩ c_acting_row
theorem ok_fit_ways (s : ask.Says K c P h) (G : h.Ns mainGlobals mg) : Callee Pr w K mg base 4 "fit_ways" 2 m_fit_ways := by
  obtain ⟨fd, D⟩ := s.defOk (x := "fit_ways") G 28 rfl b_fit_ways
  exact callee_mk (s.modT G t_fit_ways false) D s_fit_ways rfl rfl (by decide) ⟨((ok_is_tuple_of s G).mono (by decide)), (ok_fits_lead s G), trivial⟩ c_fit_ways
theorem ok_need_ways (s : ask.Says K c P h) (G : h.Ns mainGlobals mg) : Callee Pr w K mg base 5 "need_ways" 2 m_need_ways := by
  obtain ⟨fd, D⟩ := s.defOk (x := "need_ways") G 29 rfl b_need_ways
  exact callee_mk (s.modT G t_need_ways false) D s_need_ways rfl rfl (by decide) ⟨(ok_fit_ways s G), trivial⟩ c_need_ways
theorem ok_roads_in (s : ask.Says K c P h) (G : h.Ns mainGlobals mg) : Callee Pr w K mg base 4 "roads_in" 2 m_roads_in := by
  obtain ⟨fd, D⟩ := s.defOk (x := "roads_in") G 30 rfl b_roads_in
  exact callee_mk (s.modT G t_roads_in false) D s_roads_in rfl rfl (by decide) ⟨(ok_acting s G), ((ok_rounds_of s G).mono (by decide)), ((ok_acted s G).mono (by decide)), trivial⟩ c_roads_in
theorem ok_table_by (s : ask.Says K c P h) (G : h.Ns mainGlobals mg) : Callee Pr w K mg base 5 "table_by" 2 m_table_by := by
  obtain ⟨fd, D⟩ := s.defOk (x := "table_by") G 31 rfl b_table_by
  exact callee_mk (s.modT G t_table_by false) D s_table_by rfl rfl (by decide) ⟨((ok_acting s G).mono (by decide)), (ok_roads_in s G), ((ok_acted s G).mono (by decide)), trivial⟩ c_table_by
theorem ok_group_of (s : ask.Says K c P h) (G : h.Ns mainGlobals mg) : Callee Pr w K mg base 6 "group_of" 2 m_group_of := by
  obtain ⟨fd, D⟩ := s.defOk (x := "group_of") G 32 rfl b_group_of
  exact callee_mk (s.modT G t_group_of false) D s_group_of rfl rfl (by decide) ⟨((ok_need_bells s G).mono (by decide)), (ok_need_ways s G), ((ok_roads_in s G).mono (by decide)), trivial⟩ c_group_of
theorem ok_number_of (s : ask.Says K c P h) (G : h.Ns mainGlobals mg) : Callee Pr w K mg base 6 "number_of" 3 m_number_of := by
  obtain ⟨fd, D⟩ := s.defOk (x := "number_of") G 33 rfl b_number_of
  exact callee_mk (s.modT G t_number_of false) D s_number_of rfl rfl (by decide) ⟨((ok_need_bells s G).mono (by decide)), (ok_need_ways s G), ((ok_need_row s G).mono (by decide)), ((ok_roads_in s G).mono (by decide)), trivial⟩ c_number_of
theorem ok_table_of (s : ask.Says K c P h) (G : h.Ns mainGlobals mg) : Callee Pr w K mg base 6 "table_of" 2 m_table_of := by
  obtain ⟨fd, D⟩ := s.defOk (x := "table_of") G 34 rfl b_table_of
  exact callee_mk (s.modT G t_table_of false) D s_table_of rfl rfl (by decide) ⟨((ok_need_bells s G).mono (by decide)), (ok_need_ways s G), (ok_table_by s G), trivial⟩ c_table_of
theorem ok__law_cup (s : ask.Says K c P h) (G : h.Ns mainGlobals mg) : Callee Pr w K mg base 1 "_law_cup" 1 m__law_cup := by
  obtain ⟨fd, D⟩ := s.defOk (x := "_law_cup") G 35 rfl b__law_cup
  exact callee_mk (s.modT G t__law_cup false) D s__law_cup rfl rfl (by decide) trivial c__law_cup
theorem ok__law_roll (s : ask.Says K c P h) (G : h.Ns mainGlobals mg) : Callee Pr w K mg base 1 "_law_roll" 2 m__law_roll := by
  obtain ⟨fd, D⟩ := s.defOk (x := "_law_roll") G 36 rfl b__law_roll
  exact callee_mk (s.modT G t__law_roll false) D s__law_roll rfl rfl (by decide) trivial c__law_roll
theorem ok__law_some (s : ask.Says K c P h) (G : h.Ns mainGlobals mg) : Callee Pr w K mg base 2 "_law_some" 2 m__law_some := by
  obtain ⟨fd, D⟩ := s.defOk (x := "_law_some") G 37 rfl b__law_some
  exact callee_mk (s.modT G t__law_some false) D s__law_some rfl rfl (by decide) ⟨(ok__law_roll s G), trivial⟩ c__law_some
theorem ok__law_changes (s : ask.Says K c P h) (G : h.Ns mainGlobals mg) : Callee Pr w K mg base 1 "_law_changes" 1 m__law_changes := by
  obtain ⟨fd, D⟩ := s.defOk (x := "_law_changes") G 38 rfl b__law_changes
  exact callee_mk (s.modT G t__law_changes false) D s__law_changes rfl rfl (by decide) trivial c__law_changes
theorem ok__law_change (s : ask.Says K c P h) (G : h.Ns mainGlobals mg) : Callee Pr w K mg base 3 "_law_change" 2 m__law_change := by
  obtain ⟨fd, D⟩ := s.defOk (x := "_law_change") G 39 rfl b__law_change
  exact callee_mk (s.modT G t__law_change false) D s__law_change rfl rfl (by decide) ⟨((ok__law_changes s G).mono (by decide)), (ok__law_some s G), trivial⟩ c__law_change
theorem ok__law_lead (s : ask.Says K c P h) (G : h.Ns mainGlobals mg) : Callee Pr w K mg base 4 "_law_lead" 3 m__law_lead := by
  obtain ⟨fd, D⟩ := s.defOk (x := "_law_lead") G 40 rfl b__law_lead
  exact callee_mk (s.modT G t__law_lead false) D s__law_lead rfl rfl (by decide) ⟨((ok__law_roll s G).mono (by decide)), (ok__law_change s G), trivial⟩ c__law_lead
theorem ok__law_few (s : ask.Says K c P h) (G : h.Ns mainGlobals mg) : Callee Pr w K mg base 5 "_law_few" 1 m__law_few := by
  obtain ⟨fd, D⟩ := s.defOk (x := "_law_few") G 41 rfl b__law_few
  exact callee_mk (s.modT G t__law_few false) D s__law_few rfl rfl (by decide) ⟨((ok__law_some s G).mono (by decide)), ((ok__law_roll s G).mono (by decide)), (ok__law_lead s G), trivial⟩ c__law_few
theorem ok__law_power (s : ask.Says K c P h) (G : h.Ns mainGlobals mg) : Callee Pr w K mg base 1 "_law_power" 2 m__law_power := by
  obtain ⟨fd, D⟩ := s.defOk (x := "_law_power") G 42 rfl b__law_power
  exact callee_mk (s.modT G t__law_power false) D s__law_power rfl rfl (by decide) trivial c__law_power
theorem ok__law_same_right (s : ask.Says K c P h) (G : h.Ns mainGlobals mg) : Callee Pr w K mg base 6 "_law_same_right" 4 m__law_same_right := by
  obtain ⟨fd, D⟩ := s.defOk (x := "_law_same_right") G 43 rfl b__law_same_right
  exact callee_mk (s.modT G t__law_same_right false) D s__law_same_right rfl rfl (by decide) ⟨(ok_acting_row s G), ((ok_choice_for s G).mono (by decide)), ((ok_count_for s G).mono (by decide)), ((ok__law_power s G).mono (by decide)), ((ok_first_without s G).mono (by decide)), ((ok_next_ones s G).mono (by decide)), trivial⟩ c__law_same_right
theorem ok__law_by_quotients (s : ask.Says K c P h) (G : h.Ns mainGlobals mg) : Callee Pr w K mg base 7 "_law_by_quotients" 5 m__law_by_quotients := by
  obtain ⟨fd, D⟩ := s.defOk (x := "_law_by_quotients") G 44 rfl b__law_by_quotients
  exact callee_mk (s.modT G t__law_by_quotients false) D s__law_by_quotients rfl rfl (by decide) ⟨((ok_acting_row s G).mono (by decide)), (ok_number_of s G), ((ok_followed_by s G).mono (by decide)), ((ok_row_undone s G).mono (by decide)), ((ok_first_without s G).mono (by decide)), ((ok_choice_for s G).mono (by decide)), ((ok_count_for s G).mono (by decide)), trivial⟩ c__law_by_quotients
theorem ok__law_right (s : ask.Says K c P h) (G : h.Ns mainGlobals mg) : Callee Pr w K mg base 8 "_law_right" 3 m__law_right := by
  obtain ⟨fd, D⟩ := s.defOk (x := "_law_right") G 45 rfl b__law_right
  exact callee_mk (s.modT G t__law_right false) D s__law_right rfl rfl (by decide) ⟨((ok_table_of s G).mono (by decide)), ((ok_group_of s G).mono (by decide)), ((ok__law_roll s G).mono (by decide)), ((ok_row_undone s G).mono (by decide)), ((ok_acting_row s G).mono (by decide)), ((ok__law_same_right s G).mono (by decide)), ((ok_followed_by s G).mono (by decide)), (ok__law_by_quotients s G), trivial⟩ c__law_right
theorem ok_law (s : ask.Says K c P h) (G : h.Ns mainGlobals mg) (fd : FuncData) (TB : TabB base mg c P) (D : DefOk K mg "law" "law" (top 78) ["_law_script"] (He.ga K "law") fd) (hn : PySem.W.nsIn K mainGlobals "law" = some (some (.ref (He.ga K "law")))) : FnOk Pr w K mg base (L2.CX Pr w) 11 (He.ga K "law") fd ["_law_script"] (spF K mg m_law) :=
  law_mk0 (k := 7) (A := ask) (cs := t_law) s G D s_law rfl rfl (by decide) ⟨((ok__law_cup s G).mono (by decide)), ((ok__law_few s G).mono (by decide)), ((ok__law_right s G).mono (by decide)), ((ok_table_of s G).mono (by decide)), ((ok_choice_for s G).mono (by decide)), ((ok_first_without s G).mono (by decide)), ((ok_count_for s G).mono (by decide)), trivial⟩ c_law
end
def loose0 : List PySem.Str := ["OnceError", "InvalidBells", "InvalidRow", "InvalidLead", "InvalidWays", "InvalidTable", "InvalidChoice", "InvalidLeading", "FEWEST", "MOST", "is_whole", "is_tuple_of", "fits_row", "fits_change", "rounds_of"]
def loose1 : List PySem.Str := ["changed", "acted", "undone", "need_bells", "need_row", "followed_by", "row_undone", "ROWS", "WAYS_choices", "fits_table", "fits_choice", "need_table", "need_choice", "nexts_by", "next_ones"]
def loose2 : List PySem.Str := ["need_leading", "ways_so", "choice_for", "first_without", "count_for", "LONGEST", "fits_lead", "need_lead", "rows_by", "acting", "acting_row", "WAYS_groups", "fit_ways", "need_ways", "roads_in"]
def loose3 : List PySem.Str := ["table_by", "group_of", "number_of", "table_of", "_law_cup", "_law_roll", "_law_some", "_law_behind", "_law_rung", "_law_led", "_law_rounds", "_law_roads", "_law_table", "_law_nexts", "_law_is_one"]
def loose4 : List PySem.Str := ["_law_blocks", "_law_class", "_law_classes", "_law_changes", "_law_change", "_law_lead", "_law_few", "_law_power", "_law_same_right", "_law_by_quotients", "_law_right"]
def loose : List PySem.Str := loose0 ++ loose1 ++ loose2 ++ loose3 ++ loose4
abbrev R : PySem.W.OpenRow := PySem.W.OpenLaw.row PySem.Challenge.rw_rungonce_k93_whole_leadings_by_rows
def N : Nat := 15800
def depth : Nat := 6
abbrev qv : Program := PySem.W.view R.prog [78]
end PF.K93
open PySem PySem.W PySem.Calls PyProof.Rows PF PF.K93
set_option maxHeartbeats 0 in
theorem PF.K93.run (w : World) : HandSHeadRun.RunEq R qv (ask.hook depth) (ask.obT depth) N loose w := by
  intro os
  kernel_rfl
set_option maxHeartbeats 0 in
theorem PF.K93.holds (hm : ∀ ns : List Int, ns.length ≤ 63 → ∃ b, m_law [.scr ns] none = .ok (.bl true) b) : PySem.Challenge.rw_rungonce_k93_whole_leadings_by_rows.Holds := by
  w_on; o_law
  refine HandSHeadRun.head_any (r := R) (q := qv) (H := ask.hook depth) (ob := ask.obT depth) (M := N) (loose := loose) (d := HandSHeadRun.topDef R.prog 78) (kwd := []) Ask.obT_eq
    (by kernel_rfl) (fun s => by kernel_rfl) PF.K93.run (by kernel_rfl) (by kernel_rfl) (by kernel_rfl) (by rfl) (by first | assumption | decide +kernel) (by decide +kernel) ⟨rfl, rfl, rfl, rfl, rfl, by decide +kernel⟩ ?hw ?hc
  case hw => w_witness2
  case hc =>
    refine PF.walk_ofTsE (l := PySem.Challenge.rw_rungonce_k93_whole_leadings_by_rows) (n := 63) (k := 11) (x := "_law_script") (CX := fun w => L2.CX (PySem.Challenge.rw_rungonce_k93_whole_leadings_by_rows).prog w) rfl (by decide) (by kernel_rfl) ⟨rfl, by decide, by decide⟩ ?F (fun w => PF.CX_none w)
    intro w mg fa h Y G hmg0
    obtain ⟨K, c, P, s⟩ := Y
    have hmg : mg ("law" : PySem.Str) = some (.ref fa) := by
      have e : (HandSHeadRun.topDef R.prog 78).name = ("law" : PySem.Str) := by kernel_rfl
      rw [← e]
      exact hmg0
    exact ⟨K, s.kin, PF.lawAt (stL := top 78) (m := m_law) s G 46 rfl b_law (fun base fd TB D hn => ok_law s G fd TB D hn) hm hmg⟩
end
theorem PySem.Challenge.cw_rungonce_k93_whole_leadings_by_rows_holds : PySem.Challenge.rw_rungonce_k93_whole_leadings_by_rows.Holds := by
  exact PF.K93.holds PF.K93.law_true
