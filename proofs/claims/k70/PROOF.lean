import PyProof.Rows.All
import Wide.All
import OpenK.AllK
import Wide.FinOn
import HandS.ForMost
import HandS.TupSets
import HandS.SortKw
import HandS.SortInts
import HandS.SortRule
import HandS.SortOrd
import HandS.TupAny
import HandS.TupMul
import HandS.TupLe
import HandS.RevTup
import HandS.Strs
import HandS.SetFor
import HandS.Codes
import HandS.IsInst
import HandS.Deep
import HandS.Walk
import HandS.More
import HandS.Small
import HandS.Set
import KE.SortKeyed
import HandS.Lambda
import HandS.EndTab
import KE.KTupSum
import HandS.TryMany
import HandS.Conv
import HandS.Style
import HandS.Rev
import KE.DataMinMax
import HandS.RevRange
import HandS.ExcInit
import KE.KSuper
import KE.KExcSuper
import HandS.ClsMeth
import HandS.ExcField
import HandS.ExcOwn
import HandS.Nested
import KE.DataMinKey
import HandS.WordsExc
import KE.BitLaws
import PySem.Challenge.RW_loosetimes_k70_whole_stretches_covered
set_option Elab.async false
set_option linter.all false
set_option maxRecDepth 100000
/-! Vi, part 1: a small language of plain data, and what its programs come to (by recursion; nothing of the machine). -/
namespace Vi
open PySem

/-- plain data -/
inductive D where
  | non | bl (b : Bool) | int (i : Int) | str (x : Str)
  | tup (xs : List D) | lst (xs : List D)
  | dic (ks vs : List D) | set (xs : List D)
  | obj (c : Nat) (xs : List D) | clo (l : Nat) (xs : List D)
  deriving Inhabited

/-- what a name holds: nothing; data that no one changes; a list of one's own; a list of lists of one's own; a dict of one's own; the object that is being made -/
inductive Slot where
  | no | fz (d : D) | ow (xs : List D) | om (rows : List (List D)) | od (ks vs : List D) | slf (c : Nat)
  deriving Inhabited
abbrev En := List Slot

inductive Res (α : Type) where
  | ok (a : α) | exc (c : Nat) (p : D) | bad
def Res.bind {α β : Type} : Res α → (α → Res β) → Res β
  | .ok a, f => f a
  | .exc c p, _ => .exc c p
  | .bad, _ => .bad
instance : Monad Res where
  pure := .ok
  bind := Res.bind
@[simp] theorem Res.ok_bind {α β : Type} (a : α) (f : α → Res β) : (Res.ok a >>= f) = f a := rfl
@[simp] theorem Res.bad_bind {α β : Type} (f : α → Res β) : ((Res.bad : Res α) >>= f) = .bad := rfl
@[simp] theorem Res.exc_bind {α β : Type} (c : Nat) (p : D) (f : α → Res β) : ((Res.exc c p : Res α) >>= f) = .exc c p := rfl
@[simp] theorem Res.pure_eq {α : Type} (a : α) : (pure a : Res α) = .ok a := rfl
theorem Res.bind_ok {α β : Type} {r : Res α} {f : α → Res β} {b : β} (h : (r >>= f) = .ok b) : ∃ a, r = .ok a ∧ f a = .ok b := by
  cases r with
  | ok a => exact ⟨a, rfl, h⟩
  | exc c p => exact nomatch h
  | bad => exact nomatch h

/-! ### the language -/
inductive BOp where | add | sub | mul | fdiv | mod | pow | shl | shr | band | bor | bxor
  deriving DecidableEq
inductive COp where | eq | ne | lt | le | gt | ge | isin | notin | is | isnot
  deriving DecidableEq
inductive BF where | len | abs | int | bool | list | tuple | all | any | sum | sorted | min1 | max1 | min2 | max2
  deriving DecidableEq
inductive Ty where | int | bool | str | list | tuple | dict
  deriving DecidableEq
/-- what a loop walks: a sequence; a range by one bound, by two; backwards; two at once; numbered -/
inductive SK where | seq | rng1 | rng2 | rev | zip | enum | keys | rngd | revr
  deriving DecidableEq
/-- a target: a name, a row of names -/
inductive Pat where | v (i : Nat) | t (is : List Nat)
  deriving DecidableEq

/-- further calls of what is built in -/
inductive Prim where | index | count | rlist1 | rlist2
  deriving DecidableEq
/-- what a clause tells of an exception's place -/
inductive HR where | place | tup1 | pair (s : Str) | cst (s : Str)
  deriving DecidableEq
/-- what a def that asks makes of the answer: ("s", answer); ("s", None) -/
inductive AK where | pair (s : Str) | unit (s : Str)
  deriving DecidableEq
mutual
inductive Ex where
  | var (i : Nat) | bvar (i : Nat)
  | int (i : Int) | str (x : Str) | non | bl (b : Bool) | gc (g : Nat)
  | tup (es : Exs) | lst (es : Exs)
  | bin (op : BOp) (a b : Ex) | neg (a : Ex) | not (a : Ex)
  | cmp (op : COp) (a b : Ex) | chain (op op' : COp) (a b c : Ex)
  | and (a b : Ex) | or (a b : Ex) | ite (c a b : Ex)
  | call (f : Nat) (es : Exs) | blt (f : BF) (es : Exs) | isi (a : Ex) (ty : Ty)
  | sub (a i : Ex) | slice (a lo hi : Ex) | nop | bad
  | dnew | dsub (a i : Ex) | sset (a : Ex) | trev (a : Ex) | lk (i : Nat) (a : Ex)
  | asked (x : Str) (ak : AK) (hs : List (List Nat × HR)) (c : Option Nat) (f : Nat) (es : Exs)
  | mdef (mx : Bool) (a d : Ex)
  | kmax (src : Ex) (js : List Nat) (nms : List Str) (body : Ex)
  | fld (c k : Nat) (a : Ex) | isc (c : Nat) (a : Ex) | make (c f : Nat) (es : Exs) | meth (c f : Nat) (es : Exs)
  | om2 (i : Nat) (a b : Ex) | pop (i : Nat) (first : Bool) | prim (p : Prim) (es : Exs)
  | lcm (own : List Nat) (pt : Pat) (sk : SK) (src : Exs) (cnd : Exs) (elt : Ex)
  | lc (own : List Nat) (pt : Pat) (sk : SK) (src : Exs) (cnd : Exs) (elt : Ex)
  | lc2 (own : List Nat) (pt : Pat) (sk : SK) (src : Exs) (cnd : Exs) (vs : List Nat) (pt1 : Pat) (sk1 : SK) (src1 : Exs) (cnd1 : Exs) (elt : Ex)
inductive Exs where
  | nil | cons (e : Ex) (es : Exs)
end
mutual
inductive Sx where
  | asg (i : Nat) (e : Ex) | asgO (i : Nat) (e : Ex) | asgT (is : List Nat) (e : Ex) | par (is : List (Nat × Bool)) (es : Exs)
  | setI (i : Nat) (ix e : Ex) | app (i : Nat) (e : Ex)
  | aug (i : Nat) (op : BOp) (e : Ex) | augI (i : Nat) (ix : Ex) (op : BOp) (e : Ex)
  | ret (e : Ex) | retN | ife (c : Ex) (a b : Blk) | whl (c : Ex) (a : Blk) | forr (pt : Pat) (sk : SK) (src : Exs) (a : Blk)
  | brk | cnt | pass | expr (e : Ex) | fz (i : Nat) | bad
  | ext (i : Nat) (e : Ex) | rem (i : Nat) (e : Ex) | insX (i : Nat) (ix e : Ex)
  | retO (i : Nat) | retL (t : Nat) (e : Ex) | dsetI (i : Nat) (ix e : Ex) | parS (is : List Nat) (ixs jxs es : Exs)
  | asgM (i : Nat) (e : Ex) | setII (i : Nat) (ix jx e : Ex) | augII (i : Nat) (ix jx : Ex) (op : BOp) (e : Ex) | ini (c : Nat) (is : List Nat)
  | raise (c : Nat) (e : Ex) | exprX (f : Nat) (es : Exs) | asgX (i f : Nat) (es : Exs) | retX (f : Nat) (es : Exs) | tryx (b : Blk) (i : Nat) (hs : List (List Nat × HR))
inductive Blk where
  | nil | cons (s : Sx) (b : Blk)
end
/-- what a def gives: data; a new list for the caller's own; the object that it makes -/
inductive Rk where | dat | ow | ini
  deriving DecidableEq
/-- a def: which of its parameters are lists that it is lent; what it gives; how many names; the body -/
structure Fn where
  io : List Bool
  own : Rk
  slots : Nat
  body : Blk

/-! ### operations on data -/
mutual
def toP : D → Option PyData
  | .non => some .none
  | .bl b => some (.bool b)
  | .int i => some (.int i)
  | .str x => some (.str x)
  | .tup xs => (toPs xs).map .tuple
  | .lst xs => (toPs xs).map .list
  | .dic _ _ => none
  | .set _ => none
  | .obj _ _ => none
  | .clo _ _ => none
def toPs : List D → Option (List PyData)
  | [] => some []
  | d :: ds => match toP d, toPs ds with
    | some p, some ps => some (p :: ps)
    | _, _ => none
end
/-- == of data -/
def eqD (a b : D) : Res Bool :=
  match toP a, toP b with
  | some p, some q => if SeqAt.shaped p = true ∧ SeqAt.shaped q = true then .ok (PyData.eqv p q) else .bad
  | _, _ => .bad
def line : Nat := 16777216
def asBl : D → Res Bool
  | .bl b => .ok b
  | _ => .bad
def asInt : D → Res Int
  | .int i => .ok i
  | _ => .bad
def smallB (i : Int) : Bool := decide (-(2 ^ 64) < i) && decide (i < 2 ^ 64)
def binI : BOp → Int → Int → Res D
  | .add, i, j => .ok (.int (i + j))
  | .sub, i, j => .ok (.int (i - j))
  | .mul, i, j => if smallB i || smallB j then .ok (.int (i * j)) else .bad
  | .fdiv, i, j => if 0 < j ∧ j < 1073741824 then .ok (.int (i / j)) else .bad
  | .mod, i, j => if 0 < j then .ok (.int (i % j)) else .bad
  | .pow, i, j => if 0 ≤ j ∧ j ≤ 1000000 ∧ i.natAbs < 2 ^ 64 then .ok (.int (i ^ j.toNat)) else .bad
  | .shl, i, j => if 0 ≤ j ∧ j ≤ 1000000 ∧ i.natAbs < 2 ^ 64 then .ok (.int (i * 2 ^ j.toNat)) else .bad
  | .shr, i, j => if 0 ≤ j then .ok (.int (i / 2 ^ j.toNat)) else .bad
  | .band, i, j => .ok (.int (Builtin.bitAnd i j))
  | .bor, i, j => .ok (.int (Builtin.bitOr i j))
  | .bxor, i, j => .ok (.int (Builtin.bitXor i j))
def binD (op : BOp) : D → D → Res D
  | .int i, .int j => binI op i j
  | .lst xs, .lst ys => if op = .add ∧ xs.length + ys.length ≤ line then .ok (.lst (xs ++ ys)) else .bad
  | .tup xs, .tup ys => if op = .add ∧ xs.length + ys.length ≤ line then .ok (.tup (xs ++ ys)) else .bad
  | .str x, .str y => if op = .add ∧ x.length + y.length ≤ line then .ok (.str (x ++ y)) else .bad
  | .lst xs, .int k => if op = .mul ∧ -(2 ^ 63) ≤ k ∧ k < 2 ^ 63 ∧ xs.length * k.toNat ≤ line then .ok (.lst (List.replicate k.toNat xs).flatten) else .bad
  | .tup xs, .int k => if op = .mul ∧ xs.isEmpty = false ∧ 1 ≤ k ∧ k ≤ 1000 ∧ xs.length ≤ 1000 then .ok (.tup (List.replicate k.toNat xs).flatten) else .bad
  | _, _ => .bad
/-- the first row below the second, by an order of items -/
def ltDs (lt : D → D → Option Bool) : List D → List D → Option Bool
  | _, [] => some false
  | [], _ :: _ => some true
  | x :: xs, y :: ys => match eqD x y with
    | .ok true => ltDs lt xs ys
    | .ok false => lt x y
    | _ => none
/-- a < b of ints, texts, and rows so many deep -/
def ltD : Nat → D → D → Option Bool
  | _, .int i, .int j => some (decide (i < j))
  | _, .str x, .str y => some (decide (x.cps.toList < y.cps.toList))
  | n + 1, .tup xs, .tup ys => ltDs (ltD n) xs ys
  | _, _, _ => none
def ltT : D → D → Option Bool := ltD 6
def ofO {α : Type} : Option α → Res α
  | some a => .ok a
  | none => .bad
def items : D → Res (List D)
  | .lst xs => .ok xs
  | .tup xs => .ok xs
  | _ => .bad
/-- x in ys -/
def inD (x : D) (ys : List D) : Res Bool :=
  match toP x, toPs ys with
  | some p, some ps => if SeqAt.shaped p = true ∧ SeqAt.shaped (.list ps) = true then .ok (ps.any fun z => PyData.eqv z p) else .bad
  | _, _ => .bad
def isNon : D → Bool
  | .non => true
  | _ => false
def cmpD : COp → D → D → Res Bool
  | .eq, x, y => eqD x y
  | .ne, x, y => do return !(← eqD x y)
  | .lt, x, y => ofO (ltT x y)
  | .gt, .int i, .int j => .ok (decide (j < i))
  | .le, .int i, .int j => .ok (decide (i ≤ j))
  | .ge, .int i, .int j => .ok (decide (j ≤ i))
  | .isin, x, .lst ys => inD x ys
  | .notin, x, .lst ys => do return !(← inD x ys)
  | .isin, x, .tup ys => inD x ys
  | .notin, x, .tup ys => do return !(← inD x ys)
  | .is, x, .non => .ok (isNon x)
  | .isnot, x, .non => .ok (!isNon x)
  | .is, .bl a, .bl b => .ok (decide (a = b))
  | .isnot, .bl a, .bl b => .ok (!decide (a = b))
  | _, _, _ => .bad
def intsD : List D → Res (List Int)
  | [] => .ok []
  | d :: ds => do return (← asInt d) :: (← intsD ds)
def blsD : List D → Res (List Bool)
  | [] => .ok []
  | d :: ds => do return (← asBl d) :: (← blsD ds)
def leastI : List Int → Option Int
  | [] => none
  | x :: r => some (r.foldl (fun m y => if y < m then y else m) x)
def mostI : List Int → Option Int
  | [] => none
  | x :: r => some (r.foldl (fun m y => if m < y then y else m) x)
mutual
/-- a below b, place by place -/
def ltP : PyData → PyData → Bool
  | .int i, .int j => decide (i < j)
  | .bool a, .bool b => !a && b
  | .str x, .str y => decide (x.cps.toList < y.cps.toList)
  | .tuple xs, .tuple ys => ltPs xs ys
  | .list xs, .list ys => ltPs xs ys
  | _, _ => false
def ltPs : List PyData → List PyData → Bool
  | x :: xs, y :: ys => if PyData.eqv x y = true then ltPs xs ys else ltP x y
  | [], _ :: _ => true
  | _, [] => false
end
mutual
/-- of one shape throughout -/
def sameP : PyData → PyData → Bool
  | .none, .none => true
  | .int _, .int _ => true
  | .bool _, .bool _ => true
  | .str _, .str _ => true
  | .tuple xs, .tuple ys => samePs xs ys
  | .list xs, .list ys => samePs xs ys
  | _, _ => false
def samePs : List PyData → List PyData → Bool
  | [], [] => true
  | x :: xs, y :: ys => sameP x y && samePs xs ys
  | _, _ => false
end
def isT1 : PyData → Bool
  | .tuple (_ :: _) => true
  | _ => false
def isAt : PyData → Bool
  | .int _ => true
  | .str _ => true
  | .bool _ => true
  | .list _ => true
  | _ => false
def allLike : List PyData → Bool
  | [] => true
  | p :: ps => (p :: ps).all (sameP p) || (p :: ps).all fun a => (p :: ps).all fun b => PySem.W.alike a b
/-- such rows can be put in order -/
def okSort (ps : List PyData) : Bool := allLike ps && (ps.all isT1 || ps.all isAt) && ps.all SeqAt.shaped
/-- the place of the greatest, the first of alike ones -/
def bestK (p : Nat → PyData) : Nat → Nat
  | 0 => 0
  | j + 1 => if j = 0 then 0 else if ltP (p (bestK p j)) (p j) = true then j else bestK p j
def maxKey (ds ks : List D) : Option D := match toPs ks with
  | some ps => if okSort ps = true ∧ ks.length = ds.length then ds[bestK (fun i => ps.getD i .none) ds.length]? else none
  | none => none
/-- the first of the least; the first of the greatest -/
def leastAt (p : Nat → PyData) : Nat → Nat
  | 0 => 0
  | j + 1 => if ltP (p (j + 1)) (p (leastAt p j)) = true then j + 1 else leastAt p j
def mostAt (p : Nat → PyData) : Nat → Nat
  | 0 => 0
  | j + 1 => if ltP (p (mostAt p j)) (p (j + 1)) = true then j + 1 else mostAt p j
def flatD : D → Bool
  | .lst _ => false
  | .dic _ _ => false
  | _ => true
def rowAt (mx : Bool) (ds : List D) : Option D := match toPs ds with
  | some ps => if okSort ps = true ∧ ds.all flatD = true then ds[(if mx then mostAt else leastAt) (fun i => ps.getD i .none) (ds.length - 1)]? else none
  | none => none
def minR (mx : Bool) (xs : List D) : Res D := match intsD xs with
  | .ok ns => (ofO (if mx then mostI ns else leastI ns)) >>= fun m => .ok (.int m)
  | _ => ofO (rowAt mx xs)
def mapRes (f : D → Res D) : List D → Res (List D)
  | [] => .ok []
  | d :: ds => do
    let k ← f d
    let r ← mapRes f ds
    return k :: r
/-- put x ahead of the first that is not below it -/
def putK {α : Type} (le : α → α → Bool) (x : α) : List α → List α
  | [] => [x]
  | y :: ys => if le x y = true then x :: y :: ys else y :: putK le x ys
def sortK {α : Type} (le : α → α → Bool) : List α → List α
  | [] => []
  | x :: xs => putK le x (sortK le xs)
def sortD (ds : List D) : Option (List D) := match toPs ds with
  | some ps => if okSort ps = true then some ((sortK (fun a b : PyData × D => !ltP b.1 a.1) (ps.zip ds)).map (·.2)) else none
  | none => none
/-- put into a rising row -/
def insI (x : Int) : List Int → List Int
  | [] => [x]
  | y :: ys => if x < y then x :: y :: ys else if x = y then y :: ys else y :: insI x ys
/-- what differs, rising -/
def risI : List Int → List Int
  | [] => []
  | x :: xs => insI x (risI xs)
/-! dicts: the keys, the values -/
def keyEq : D → D → Bool
  | .int i, .int j => decide (i = j)
  | .str x, .str y => decide (x = y)
  | _, _ => false
def keyOk : D → Bool
  | .int _ => true
  | .str _ => true
  | _ => false
def dget : List D → List D → D → Option D
  | k :: ks, v :: vs, x => if keyEq k x = true then some v else dget ks vs x
  | _, _, _ => none
/-- the values, where x's is set to d -/
def dset : List D → List D → D → D → List D
  | k :: ks, v :: vs, x, d => (if keyEq k x = true then d else v) :: dset ks vs x d
  | _, vs, _, _ => vs
def dput (ks vs : List D) (x d : D) : List D × List D :=
  if (ks.any fun k => keyEq k x) = true then (ks, dset ks vs x d) else (ks ++ [x], vs ++ [d])
def bfn : BF → List D → Res D
  | .len, [.lst xs] => .ok (.int xs.length)
  | .len, [.tup xs] => .ok (.int xs.length)
  | .len, [.dic ks _] => .ok (.int ks.length)
  | .abs, [.int i] => .ok (.int (if i < 0 then -i else i))
  | .int, [.int i] => .ok (.int i)
  | .int, [.bl b] => .ok (.int (if b then 1 else 0))
  | .bool, [.bl b] => .ok (.bl b)
  | .list, [.lst xs] => .ok (.lst xs)
  | .list, [.tup xs] => .ok (.lst xs)
  | .list, [.dic ks _] => .ok (.lst ks)
  | .tuple, [.lst xs] => .ok (.tup xs)
  | .tuple, [.tup xs] => .ok (.tup xs)
  | .all, [.lst xs] => do return .bl ((← blsD xs).all id)
  | .any, [.lst xs] => do return .bl ((← blsD xs).any id)
  | .sum, [.lst xs] => do return .int (← intsD xs).sum
  | .sum, [.tup xs] => do return .int (← intsD xs).sum
  | .sorted, [.lst xs] => do return .lst (← ofO (sortD xs))
  | .sorted, [.tup xs] => do return .lst (← ofO (sortD xs))
  | .min1, [.lst xs] => minR false xs
  | .max1, [.lst xs] => minR true xs
  | .min1, [.tup xs] => minR false xs
  | .max1, [.tup xs] => minR true xs
  | .min2, [.int i, .int j] => .ok (.int (if j < i then j else i))
  | .max2, [.int i, .int j] => .ok (.int (if j > i then j else i))
  | _, _ => .bad
def isiD : Ty → D → Res Bool
  | .int, .int _ => .ok true
  | .int, .bl _ => .ok true
  | .bool, .bl _ => .ok true
  | .str, .str _ => .ok true
  | .list, .lst _ => .ok true
  | .tuple, .tup _ => .ok true
  | _, .dic _ _ => .bad
  | _, .set _ => .bad
  | _, .obj _ _ => .bad
  | _, .clo _ _ => .bad
  | _, _ => .ok false
def subD : D → D → Res D
  | .lst xs, .int i => ofO (L2.atI xs i)
  | .tup xs, .int i => ofO (L2.atI xs i)
  | _, _ => .bad
def isNop : Ex → Bool
  | .nop => true
  | _ => false
/-- a slice's bound (none: nothing written) -/
def optI : Bool → D → Res (Option Int)
  | true, _ => .ok none
  | false, .int i => .ok (some i)
  | _, _ => .bad
def cutD (xs : List D) (lo hi : Option Int) : List D :=
  (xs.drop (HT.sIx xs.length 0 lo)).take (HT.sIx xs.length xs.length hi - HT.sIx xs.length 0 lo)
def sliceD : D → Option Int → Option Int → Res D
  | .lst xs, lo, hi => .ok (.lst (cutD xs lo hi))
  | .tup xs, lo, hi => .ok (.tup (cutD xs lo hi))
  | _, _, _ => .bad
def rangeD (lo : Int) (n : Nat) : List D := (List.range n).map fun k => .int (lo + (k : Nat))
def downD (lo : Int) (n : Nat) : List D := (List.range n).map fun k => .int (lo + (k : Nat) * (-1))
def big62 (i : Int) : Bool := decide (-(2 ^ 62) ≤ i) && decide (i < 2 ^ 62)
def srcI : SK → List D → Res (List D)
  | .seq, [d] => items d
  | .rng1, [.int j] => if big62 j = true ∧ j.toNat ≤ line then .ok (rangeD 0 j.toNat) else .bad
  | .rng2, [.int i, .int j] => if big62 i = true ∧ big62 j = true ∧ (j - i).toNat ≤ line then .ok (rangeD i (j - i).toNat) else .bad
  | .rngd, [.int i, .int j, .int k] => if k = -1 ∧ big62 i = true ∧ big62 j = true ∧ (i - j).toNat ≤ line then .ok (downD i (i - j).toNat) else .bad
  | .rev, [.lst xs] => .ok xs.reverse
  | .zip, [.lst xs, .lst ys] => .ok ((xs.zip ys).map fun p => .tup [p.1, p.2])
  | .keys, [.dic ks _] => .ok ks
  | .revr, [.int j] => if big62 j = true ∧ j.toNat ≤ line then .ok (downD (((j.toNat : Nat) : Int) - 1) j.toNat) else .bad
  | .enum, [.lst xs] => .ok ((xs.zipIdx).map fun p => .tup [.int (p.2 : Nat), p.1])
  | _, _ => .bad

/-- the least, the most of ints; of none: e -/
def mdefD (mx : Bool) : D → D → Res D
  | .lst es, e => do
    let ns ← intsD es
    match (if mx then mostI ns else leastI ns) with
    | some m => .ok (.int m)
    | none => .ok e
  | .tup es, e => do
    let ns ← intsD es
    match (if mx then mostI ns else leastI ns) with
    | some m => .ok (.int m)
    | none => .ok e
  | _, _ => .bad
/-! objects; further calls -/
def fldD (c k : Nat) : D → Res D
  | .obj c' ds => if c' = c then ofO ds[k]? else .bad
  | _ => .bad
def iscD (c : Nat) : D → Res Bool
  | .obj c' _ => if c' = c then .ok true else .bad
  | _ => .bad
def isObj (c : Nat) : List D → Bool
  | .obj c' _ :: _ => decide (c' = c)
  | _ => false
/-- the first place at which p stands -/
def idxP (p : PyData) (ps : List PyData) : Option Nat := ps.findIdx? fun z => PyData.eqv z p
def primD : Prim → List D → Res D
  | .index, [.lst xs, d] => match toP d, toPs xs with
    | some p, some ps => if SeqAt.shaped p = true ∧ SeqAt.shaped (.list ps) = true then (match idxP p ps with
      | some j => .ok (.int (j : Nat))
      | none => .bad) else .bad
    | _, _ => .bad
  | .count, [.lst xs, .int k] => do return .int ((← intsD xs).count k : Nat)
  | .rlist1, [.int j] => if big62 j = true ∧ j.toNat ≤ line then .ok (.lst (rangeD 0 j.toNat)) else .bad
  | .rlist2, [.int i, .int j] => if big62 i = true ∧ big62 j = true ∧ (j - i).toNat ≤ line then .ok (.lst (rangeD i (j - i).toNat)) else .bad
  | _, _ => .bad
def rowsD : List D → Res (List (List D))
  | [] => .ok []
  | .lst xs :: ds => do return xs :: (← rowsD ds)
  | _ :: _ => .bad
def putR (rows : List (List D)) (k : Int) (row : List D) : Option (List (List D)) := (L2.ixN rows.length k).map fun j => rows.set j row
def fzAt : En → List Nat → Option (List D)
  | _, [] => some []
  | en, i :: is => match en.getD i .no, fzAt en is with
    | .fz d, some r => some (d :: r)
    | _, _ => none

/-! ### names -/
def getS (en : En) (i : Nat) : Slot := en.getD i .no
def bindP : Pat → D → En → Res En
  | .v i, d, en => .ok (en.set i (.fz d))
  | .t is, .tup ds, en => if is.length = ds.length then .ok ((is.zip ds).foldl (fun en p => en.set p.1 (.fz p.2)) en) else .bad
  | _, _, _ => .bad
def wipeE : List Nat → En → En
  | [], en => en
  | v :: vs, en => (wipeE vs en).set v .no
def backE (old : En) : List Nat → En → En
  | [], en => en
  | v :: vs, en => (backE old vs en).set v (getS old v)
/-- one turn after another; a turn may give an item -/
def lcGo (step : D → En → Res (Option D × En)) : List D → En → Res (List D × En)
  | [], en => .ok ([], en)
  | d :: ds, en => do
    let r ← step d en
    let q ← lcGo step ds r.2
    return (match r.1 with | some y => y :: q.1 | none => q.1, q.2)

/-- one turn after another; a turn gives some items -/
def lcGo2 (step : D → En → Res (List D × En)) : List D → En → Res (List D × En)
  | [], en => .ok ([], en)
  | d :: ds, en => do
    let r ← step d en
    let q ← lcGo2 step ds r.2
    return (r.1 ++ q.1, q.2)

/-! ### what it comes to -/
/-- what the defs come to: a def's number, its arguments; the answer, and the lists that it was lent as they stand then -/
abbrev Tb := Nat → List Slot → Res (D × List (List D))
/-- what is one's own is not seen -/
def maskS : Slot → Slot
  | .fz d => .fz d
  | _ => .no
def maskE (en : En) : En := en.map maskS
def lentAt : Exs → List (Option Nat)
  | .nil => []
  | .cons (.bvar i) es => some i :: lentAt es
  | .cons _ es => none :: lentAt es
/-- the arguments: those lent as they stand now -/
def argsOf (en : En) : List (Option Nat) → List D → Option (List Slot)
  | [], [] => some []
  | some i :: ls, _ :: ds => match getS en i, argsOf en ls ds with
    | .ow xs, some r => some (.ow xs :: r)
    | _, _ => none
  | none :: ls, d :: ds => (argsOf en ls ds).map (.fz d :: ·)
  | _, _ => none
def putBack : List (Option Nat) → List (List D) → En → En
  | some i :: ls, o :: os, en => putBack ls os (en.set i (.ow o))
  | none :: ls, os, en => putBack ls os en
  | _, _, en => en

def hrD : HR → D → D
  | .place, p => p
  | .tup1, p => .tup [p]
  | .pair s, p => .tup [.str s, p]
  | .cst s, _ => .str s
def findH (c : Nat) : List (List Nat × HR) → Option HR
  | [] => none
  | (l, h) :: r => if l.contains c = true then some h else findH c r
def akD : AK → D → D
  | .pair s, d => .tup [.str s, d]
  | .unit s, _ => .tup [.str s, .non]
/-- the data in these places -/
def capsD (en : En) : List Nat → Option (List D)
  | [] => some []
  | j :: js => match getS en j, capsD en js with
    | .fz d, some r => some (d :: r)
    | _, _ => none
/-- the answer to what is asked, what is raised told -/
def askR (ak : AK) (hs : List (List Nat × HR)) : Res (D × List (List D)) → Res D
  | .ok q => .ok (akD ak q.1)
  | .exc c p => match findH c hs with
    | some h => .ok (hrD h p)
    | none => .bad
  | .bad => .bad
def ofC : Option Nat → List Slot
  | none => []
  | some c => [.slf c]
def allT : List D → Res Bool
  | [] => .ok true
  | d :: ds => do
    if ← asBl d then allT ds else return false

mutual
def ev (P : Tb) (G : List D) : Ex → En → Res (D × En)
  | .var i, en => match getS en i with
    | .fz d => .ok (d, en)
    | _ => .bad
  | .bvar i, en => match getS en i with
    | .ow xs => .ok (.lst xs, en)
    | .od ks vs => .ok (.dic ks vs, en)
    | _ => .bad
  | .dnew, en => .ok (.dic [] [], en)
  | .fld c k a, en => do
    let r ← ev P G a en
    return (← fldD c k r.1, r.2)
  | .isc c a, en => do
    let r ← ev P G a en
    return (.bl (← iscD c r.1), r.2)
  | .make c f es, en => do
    let r ← evs P G es en
    let q ← P f (.slf c :: r.1.map .fz)
    return (q.1, r.2)
  | .meth c f es, en => do
    let r ← evs P G es en
    if isObj c r.1 = true then do
      let q ← P f (r.1.map .fz)
      return (q.1, r.2)
    else .bad
  | .om2 i a b, en => do
    let r ← ev P G a en
    let q ← ev P G b r.2
    match getS q.2 i, r.1, q.1 with
    | .om rows, .int k, .int l => do
      let row ← ofO (L2.atI rows k)
      let d ← ofO (L2.atI row l)
      return (d, q.2)
    | _, _, _ => .bad
  | .pop i first, en => match getS en i with
    | .ow xs => if first then (match xs with
      | d :: r => .ok (d, en.set i (.ow r))
      | [] => .bad) else (match xs.getLast? with
      | some d => .ok (d, en.set i (.ow xs.dropLast))
      | none => .bad)
    | _ => .bad
  | .mdef mx a e, en => do
    let r ← ev P G a en
    let q ← ev P G e r.2
    return (← mdefD mx r.1 q.1, q.2)
  | .kmax src js _ body, en => do
    let r ← ev P G src en
    match r.1 with
    | .lst ds => match capsD r.2 js with
      | some cs => do
        let ks ← mapRes (fun d => do
          let q ← ev P G body (.fz d :: cs.map .fz)
          return q.1) ds
        match maxKey ds ks with
        | some m => .ok (m, r.2)
        | none => .bad
      | none => .bad
    | _ => .bad
  | .asked _ ak hs c f es, en => do
    let r ← evs P G es (maskE en)
    let d ← askR ak hs (P f (ofC c ++ r.1.map .fz))
    return (d, en)
  | .prim p es, en => do
    let r ← evs P G es en
    return (← primD p r.1, r.2)
  | .sset a, en => do
    let r ← ev P G a en
    match r.1 with
    | .lst xs => do
      let ns ← intsD xs
      if ns.length < 60 then return (.lst ((risI ns).map .int), r.2) else .bad
    | _ => .bad
  | .lk i a, en => match getS en i with
    | .od ks vs => do
      let r ← ev P G a ((maskE en).set i (.fz (.dic ks vs)))
      match r.1 with
      | .lst xs => do
        let _ ← intsD xs
        return (.lst xs, en)
      | _ => .bad
    | _ => .bad
  | .trev a, en => do
    let r ← ev P G a en
    match r.1 with
    | .lst xs => return (.tup xs.reverse, r.2)
    | _ => .bad
  | .dsub a i, en => do
    let r ← ev P G a en
    let q ← ev P G i r.2
    match r.1 with
    | .dic ks vs => if keyOk q.1 = true then return (← ofO (dget ks vs q.1), q.2) else .bad
    | _ => .bad
  | .int i, en => .ok (.int i, en)
  | .str x, en => .ok (.str x, en)
  | .non, en => .ok (.non, en)
  | .bl b, en => .ok (.bl b, en)
  | .nop, en => .ok (.non, en)
  | .bad, _ => .bad
  | .gc g, en => match G[g]? with
    | some d => .ok (d, en)
    | none => .bad
  | .tup es, en => do
    let r ← evs P G es en
    return (.tup r.1, r.2)
  | .lst es, en => do
    let r ← evs P G es en
    return (.lst r.1, r.2)
  | .bin op a b, en => do
    let r ← ev P G a en
    let q ← ev P G b r.2
    return (← binD op r.1 q.1, q.2)
  | .neg a, en => do
    let r ← ev P G a en
    return (.int (-(← asInt r.1)), r.2)
  | .not a, en => do
    let r ← ev P G a en
    return (.bl (!(← asBl r.1)), r.2)
  | .cmp op a b, en => do
    let r ← ev P G a en
    let q ← ev P G b r.2
    return (.bl (← cmpD op r.1 q.1), q.2)
  | .chain op op' a b c, en => do
    let r ← ev P G a en
    let q ← ev P G b r.2
    if (← cmpD op r.1 q.1) then
      let u ← ev P G c q.2
      return (.bl (← cmpD op' q.1 u.1), u.2)
    else return (.bl false, q.2)
  | .and a b, en => do
    let r ← ev P G a en
    if (← asBl r.1) then ev P G b r.2 else return (.bl false, r.2)
  | .or a b, en => do
    let r ← ev P G a en
    if (← asBl r.1) then return (.bl true, r.2) else ev P G b r.2
  | .ite c a b, en => do
    let r ← ev P G c en
    if (← asBl r.1) then ev P G a r.2 else ev P G b r.2
  | .call f es, en => do
    let r ← evs P G es en
    let sl ← ofO (argsOf r.2 (lentAt es) r.1)
    let q ← P f sl
    return (q.1, putBack (lentAt es) q.2 r.2)
  | .blt f es, en => do
    let r ← evs P G es en
    return (← bfn f r.1, r.2)
  | .isi a ty, en => do
    let r ← ev P G a en
    return (.bl (← isiD ty r.1), r.2)
  | .sub a i, en => do
    let r ← ev P G a en
    let q ← ev P G i r.2
    return (← subD r.1 q.1, q.2)
  | .slice a lo hi, en => do
    let r ← ev P G a en
    let q ← ev P G lo r.2
    let u ← ev P G hi q.2
    return (← sliceD r.1 (← optI (isNop lo) q.1) (← optI (isNop hi) u.1), u.2)
  | .lc own pt sk src cnd elt, en => do
    let r ← evs P G src en
    let its ← srcI sk r.1
    let q ← lcGo (fun d en => do
      let en1 ← bindP pt d en
      let c ← evs P G cnd en1
      if ← allT c.1 then
        let y ← ev P G elt c.2
        return (some y.1, wipeE own y.2)
      else return (none, wipeE own c.2)) its (wipeE own r.2)
    return (.lst q.1, backE r.2 own q.2)
  | .lcm own pt sk src cnd elt, en => do
    let r ← evs P G src en
    let its ← srcI sk r.1
    let q ← lcGo (fun d en => do
      let en1 ← bindP pt d en
      let c ← evs P G cnd en1
      if ← allT c.1 then
        let y ← ev P G elt c.2
        return (some y.1, wipeE own y.2)
      else return (none, wipeE own c.2)) its (wipeE own r.2)
    return (.lst q.1, backE r.2 own q.2)
  | .lc2 own pt sk src cnd vs pt1 sk1 src1 cnd1 elt, en => do
    let r ← evs P G src en
    let its ← srcI sk r.1
    let q ← lcGo2 (fun d en => do
      let en1 ← bindP pt d en
      let c ← evs P G cnd en1
      if ← allT c.1 then
        let r1 ← evs P G src1 c.2
        let its1 ← srcI sk1 r1.1
        let q1 ← lcGo (fun d en => do
          let en1 ← bindP pt1 d en
          let c ← evs P G cnd1 en1
          if ← allT c.1 then
            let y ← ev P G elt c.2
            return (some y.1, wipeE vs y.2)
          else return (none, wipeE vs c.2)) its1 (wipeE vs r1.2)
        return (q1.1, wipeE own q1.2)
      else return ([], wipeE own c.2)) its (wipeE own r.2)
    if q.1.length ≤ line then return (.lst q.1, backE r.2 own q.2) else .bad
def evs (P : Tb) (G : List D) : Exs → En → Res (List D × En)
  | .nil, en => .ok ([], en)
  | .cons e es, en => do
    let r ← ev P G e en
    let q ← evs P G es r.2
    return (r.1 :: q.1, q.2)
end
/-- how a statement ends; retO: with the list of one's own that a name holds -/
inductive Flow where | nx | brk | cnt | ret (d : D) | retO (i : Nat) | thr (c : Nat) (p : D)
/-- nothing stands -/
def wipA (en : En) : En := List.replicate en.length .no
/-- a call that may raise -/
def callX (P : Tb) (f : Nat) (sl : List Slot) (en : En) (k : D × List (List D) → Flow × En) : Res (Flow × En) := match P f sl with
  | .ok q => .ok (k q)
  | .exc c p => .ok (.thr c p, wipA en)
  | .bad => .bad
def whileN (c : En → Res (Bool × En)) (b : En → Res (Flow × En)) : Nat → En → Res (Flow × En)
  | 0, _ => .bad
  | n + 1, en => do
    let r ← c en
    if r.1 then
      let q ← b r.2
      match q.1 with
      | .nx => whileN c b n q.2
      | .cnt => whileN c b n q.2
      | .brk => .ok (.nx, q.2)
      | .ret d => .ok (.ret d, q.2)
      | .retO i => .ok (.retO i, q.2)
      | .thr c p => .ok (.thr c p, q.2)
    else .ok (.nx, r.2)
def forGo (step : D → En → Res (Flow × En)) : List D → En → Res (Flow × En)
  | [], en => .ok (.nx, en)
  | d :: ds, en => do
    let q ← step d en
    match q.1 with
    | .nx => forGo step ds q.2
    | .cnt => forGo step ds q.2
    | .brk => .ok (.nx, q.2)
    | .ret d => .ok (.ret d, q.2)
    | .retO i => .ok (.retO i, q.2)
    | .thr c p => .ok (.thr c p, q.2)
def parGo : List (Nat × Bool) → List D → En → Res En
  | [], [], en => .ok en
  | (i, false) :: is, d :: ds, en => parGo is ds (en.set i (.fz d))
  | (i, true) :: is, .lst xs :: ds, en => parGo is ds (en.set i (.ow xs))
  | _, _, _ => .bad
def fuel : Nat := 1048576
def putIx (xs : List D) (i : Int) (d : D) : Option (List D) := (L2.ixN xs.length i).map fun j => xs.set j d
/-- a store into an item of an item -/
def putII (rows : List (List D)) (k l : Int) (d : D) : Option (List (List D)) := match L2.atI rows k with
  | some row => match putIx row l d with
    | some row' => putR rows k row'
    | none => none
  | none => none
/-- stores from the left: into names (no index), into items of lists of one's own, into items of their items -/
def parSGo (P : Tb) (G : List D) : List Nat → Exs → Exs → List D → En → Res En
  | [], .nil, .nil, [], en => .ok en
  | i :: is, .cons ix ixs, .cons jx jxs, d :: ds, en => if isNop ix = true then parSGo P G is ixs jxs ds (en.set i (.fz d)) else if isNop jx = true then do
    let o ← ev P G (.bvar i) en
    let q ← ev P G ix o.2
    match getS q.2 i, q.1 with
    | .ow xs, .int k => do
      let ys ← ofO (putIx xs k d)
      parSGo P G is ixs jxs ds (q.2.set i (.ow ys))
    | _, _ => .bad
    else do
    let q ← ev P G ix en
    let u ← ev P G jx q.2
    match getS u.2 i, q.1, u.1 with
    | .om rows, .int k, .int l => do
      let ys ← ofO (putII rows k l d)
      parSGo P G is ixs jxs ds (u.2.set i (.om ys))
    | _, _, _ => .bad
  | _, _, _, _, _ => .bad

mutual
def ex (P : Tb) (G : List D) : Sx → En → Res (Flow × En)
  | .asg i e, en => do
    let r ← ev P G e en
    return (.nx, r.2.set i (.fz r.1))
  | .asgO i e, en => do
    let r ← ev P G e en
    match r.1 with
    | .lst xs => return (.nx, r.2.set i (.ow xs))
    | .dic ks vs => return (.nx, r.2.set i (.od ks vs))
    | _ => .bad
  | .asgT is e, en => do
    let r ← ev P G e en
    return (.nx, ← bindP (.t is) r.1 r.2)
  | .par is es, en => do
    let r ← evs P G es en
    return (.nx, ← parGo is r.1 r.2)
  | .parS is ixs jxs es, en => do
    let r ← evs P G es en
    return (.nx, ← parSGo P G is ixs jxs r.1 r.2)
  | .asgM i e, en => do
    let r ← ev P G e en
    match r.1 with
    | .lst xs => do
      let rows ← rowsD xs
      return (.nx, r.2.set i (.om rows))
    | _ => .bad
  | .setII i ix jx e, en => do
    let r ← ev P G e en
    let q ← ev P G ix r.2
    let u ← ev P G jx q.2
    match getS u.2 i, q.1, u.1 with
    | .om rows, .int k, .int l => return (.nx, u.2.set i (.om (← ofO (putII rows k l r.1))))
    | _, _, _ => .bad
  | .augII i ix jx op e, en => do
    let q ← ev P G ix en
    let u ← ev P G jx q.2
    match getS u.2 i, q.1, u.1 with
    | .om rows, .int k, .int l => do
      let row ← ofO (L2.atI rows k)
      let a ← asInt (← ofO (L2.atI row l))
      let r ← ev P G e u.2
      let b ← asInt r.1
      let d ← binI op a b
      match getS r.2 i with
      | .om rows2 => return (.nx, r.2.set i (.om (← ofO (putII rows2 k l d))))
      | _ => .bad
    | _, _, _ => .bad
  | .ini c is, en => match getS en 0, fzAt en is with
    | .slf c', some ds => if c' = c then .ok (.nx, en.set 0 (.fz (.obj c ds))) else .bad
    | _, _ => .bad
  | .setI i ix e, en => do
    let r ← ev P G e en
    let o ← ev P G (.bvar i) r.2
    let q ← ev P G ix o.2
    match getS q.2 i, q.1 with
    | .ow xs, .int k => return (.nx, q.2.set i (.ow (← ofO (putIx xs k r.1))))
    | _, _ => .bad
  | .dsetI i ix e, en => do
    let r ← ev P G e en
    let o ← ev P G (.bvar i) r.2
    let q ← ev P G ix o.2
    match getS q.2 i with
    | .od ks vs => if keyOk q.1 = true ∧ ks.length < line then return (.nx, q.2.set i (.od (dput ks vs q.1 r.1).1 (dput ks vs q.1 r.1).2)) else .bad
    | _ => .bad
  | .app i e, en => match getS en i with
    | .ow _ => do
      let r ← ev P G e en
      match getS r.2 i with
      | .ow xs => if xs.length < line then return (.nx, r.2.set i (.ow (xs ++ [r.1]))) else .bad
      | _ => .bad
    | _ => .bad
  | .ext i e, en => match getS en i with
    | .ow _ => do
      let r ← ev P G e en
      match getS r.2 i, r.1 with
      | .ow xs, .lst ys => if xs.length + ys.length ≤ line then return (.nx, r.2.set i (.ow (xs ++ ys))) else .bad
      | _, _ => .bad
    | _ => .bad
  | .rem i e, en => match getS en i with
    | .ow _ => do
      let r ← ev P G e en
      match getS r.2 i with
      | .ow xs => do
        let k ← asInt r.1
        let ns ← intsD xs
        if k ∈ ns then return (.nx, r.2.set i (.ow ((ns.erase k).map .int))) else .bad
      | _ => .bad
    | _ => .bad
  | .insX i ix e, en => match getS en i with
    | .ow _ => do
      let q ← ev P G ix en
      let r ← ev P G e q.2
      match getS r.2 i, q.1 with
      | .ow xs, .int k => if xs.length < line ∧ 0 ≤ k ∧ k < 2 ^ 63 then return (.nx, r.2.set i (.ow (xs.take k.toNat ++ [r.1] ++ xs.drop k.toNat))) else .bad
      | _, _ => .bad
    | _ => .bad
  | .aug i op e, en => match getS en i with
    | .fz d => do
      let a ← asInt d
      let r ← ev P G e en
      let b ← asInt r.1
      return (.nx, r.2.set i (.fz (← binI op a b)))
    | _ => .bad
  | .augI i ix op e, en => do
    let o ← ev P G (.bvar i) en
    let q ← ev P G ix o.2
    match getS q.2 i, q.1 with
    | .ow xs, .int k => do
      let a ← asInt (← ofO (L2.atI xs k))
      let r ← ev P G e q.2
      let b ← asInt r.1
      let d ← binI op a b
      match getS r.2 i with
      | .ow ys => return (.nx, r.2.set i (.ow (← ofO (putIx ys k d))))
      | _ => .bad
    | _, _ => .bad
  | .ret e, en => do
    let r ← ev P G e en
    return (.ret r.1, r.2)
  | .retN, en => .ok (.ret .non, en)
  | .retO i, en => match getS en i with
    | .ow _ => .ok (.retO i, en)
    | _ => .bad
  | .retL t e, en => do
    let r ← ev P G e en
    match r.1 with
    | .lst xs => return (.retO t, r.2.set t (.ow xs))
    | _ => .bad
  | .ife c a b, en => do
    let r ← ev P G c en
    if ← asBl r.1 then exB P G a r.2 else exB P G b r.2
  | .whl c a, en => whileN (fun en => do
      let r ← ev P G c en
      return (← asBl r.1, r.2)) (exB P G a) fuel en
  | .forr pt sk src a, en => do
    let r ← evs P G src en
    let its ← srcI sk r.1
    forGo (fun d en => do
      let en1 ← bindP pt d en
      exB P G a en1) its r.2
  | .brk, en => .ok (.brk, en)
  | .cnt, en => .ok (.cnt, en)
  | .pass, en => .ok (.nx, en)
  | .expr e, en => do
    let r ← ev P G e en
    return (.nx, r.2)
  | .fz i, en => match getS en i with
    | .ow xs => .ok (.nx, en.set i (.fz (.lst xs)))
    | .od ks vs => .ok (.nx, en.set i (.fz (.dic ks vs)))
    | .om rows => .ok (.nx, en.set i (.fz (.lst (rows.map .lst))))
    | _ => .bad
  | .raise c e, en => do
    let r ← ev P G e en
    return (.thr c r.1, wipA en)
  | .exprX f es, en => do
    let r ← evs P G es en
    let sl ← ofO (argsOf r.2 (lentAt es) r.1)
    callX P f sl en fun q => (.nx, putBack (lentAt es) q.2 r.2)
  | .asgX i f es, en => do
    let r ← evs P G es en
    let sl ← ofO (argsOf r.2 (lentAt es) r.1)
    callX P f sl en fun q => (.nx, (putBack (lentAt es) q.2 r.2).set i (.fz q.1))
  | .retX f es, en => do
    let r ← evs P G es en
    let sl ← ofO (argsOf r.2 (lentAt es) r.1)
    callX P f sl en fun q => (.ret q.1, putBack (lentAt es) q.2 r.2)
  | .tryx b i hs, en => do
    let r ← exB P G b en
    match r.1 with
    | .thr c p => match findH c hs with
      | some h => return (.ret (hrD h p), wipA en)
      | none => return (.thr c p, r.2)
    | f => return (f, r.2)
  | .bad, _ => .bad
def exB (P : Tb) (G : List D) : Blk → En → Res (Flow × En)
  | .nil, en => .ok (.nx, en)
  | .cons s b, en => do
    let r ← ex P G s en
    match r.1 with
    | .nx => exB P G b r.2
    | f => return (f, r.2)
end
/-- the lists that were lent, as they stand at the end -/
def lentBack : List Slot → En → Option (List (List D))
  | [], _ => some []
  | .ow _ :: sl, s :: en => match s, lentBack sl en with
    | .ow xs, some r => some (xs :: r)
    | _, _ => none
  | _ :: sl, _ :: en => lentBack sl en
  | _ :: _, [] => none
/-- the arguments are as the def wants them -/
def okIo : List Bool → List Slot → Bool
  | [], [] => true
  | true :: r, .ow _ :: sl => okIo r sl
  | false :: r, .fz _ :: sl => okIo r sl
  | _, _ => false
/-- .. the object that is being made ahead -/
def okArgs : Rk → List Bool → List Slot → Bool
  | .ini, false :: io, .slf _ :: sl => okIo io sl
  | .ini, _, _ => false
  | _, io, sl => okIo io sl
/-- an expression that raises is not told -/
def noX {α : Type} : Res α → Res α
  | .ok a => .ok a
  | _ => .bad
def endFn (f : Fn) (sl : List Slot) (r : Flow × En) : Res (D × List (List D)) := do
    let o ← ofO (lentBack sl r.2)
    match r.1, f.own with
    | .ret d, .dat => return (d, o)
    | .nx, .dat => return (.non, o)
    | .nx, .ini => match getS r.2 0 with
      | .fz (.obj c ds) => return (.obj c ds, o)
      | _ => .bad
    | .retO i, .ow => match getS r.2 i, f.io.getD i false with
      | .ow xs, false => return (.lst xs, o)
      | _, _ => .bad
    | _, _ => .bad
def runFn (P : Tb) (G : List D) (f : Fn) (sl : List Slot) : Res (D × List (List D)) :=
  if okArgs f.own f.io sl = true then do
    let r ← noX (exB P G f.body (sl ++ List.replicate (f.slots - f.io.length) .no))
    match r.1 with
    | .thr c p => .exc c p
    | _ => endFn f sl r
  else .bad
/-- the defs, called at most so many deep -/
def tab (G : List D) (fns : List Fn) : Nat → Tb
  | 0, _, _ => .bad
  | k + 1, f, sl => match fns[f]? with
    | some fn => runFn (tab G fns k) G fn sl
    | none => .bad
end Vi

/-! Vi, part 2: how data lies in the machine's heap. -/
namespace Vi
open PySem PySem.Spec PyProof.Rows
open L2

/-- what stands fast of the module: its classes by number: the class's object, its fields -/
class Wx where
  cls : Nat → Option (Addr × List Str)
  /-- .. its classes of exceptions -/
  exc : Nat → Option Addr
  /-- .. the tables of code that a def fills that makes lambdas, each with its lambdas' full name -/
  tabs : List (Addr × Str)
variable [Wx]
def isFz : HO → Prop
  | .tup _ => True
  | .frz _ _ => True
  | .ins _ _ fs => fs ≠ []
  | _ => False
/-- what may be one's own -/
def isOw : HO → Prop
  | .lst _ => True
  | .dK _ => True
  | .ins _ _ fs => fs = []
  | _ => False
def isOl : HO → Prop
  | .lst _ => True
  | .dK _ => True
  | _ => False
theorem ol_ow {u : HO} (h : isOl u) : isOw u := by cases u <;> first | exact h.elim | trivial
theorem ow_notFz {u : HO} (h : isOw u) : ¬ isFz u := by cases u <;> first | exact h.elim | exact fun z => z | exact fun z => z h
/-- a key of a dict as a datum -/
def dK : Key → D
  | .inl i => .int i
  | .inr x => .str x
/-- a list of the module's own text -/
def KL (K : PySem.W.Frag) (a : Addr) (xs : List V) : Prop :=
  ∃ (its : List Value) (n : Nat), K.lookup a = some { cls := .type "list", data := .seq its.toArray n } ∧ its.length ≤ sizeLine ∧ Vals xs its
/-- a list that stays as it is -/
def FzL (K : PySem.W.Frag) (H : Hp) (a : Addr) (xs : List V) : Prop := (∃ o, H a = some (.frz o (.lst xs))) ∨ KL K a xs
/-- a list as it is now -/
def SqX (K : PySem.W.Frag) (H : Hp) (a : Addr) (xs : List V) : Prop := H a = some (.lst xs) ∨ FzL K H a xs
theorem SqX.sq {K : PySem.W.Frag} {H : Hp} {a : Addr} {xs : List V} (h : SqX K H a xs) : SqL K H a xs := by
  rcases h with h | ⟨o, h⟩ | ⟨its, n, h, z, r⟩
  · exact .inl (.inl h)
  · exact .inl (.inr ⟨o, h⟩)
  · exact .inr ⟨_, its.toArray, n, h, rfl, rfl, rfl, by simpa using z, by simpa using r⟩
theorem FzL.sq {K : PySem.W.Frag} {H : Hp} {a : Addr} {xs : List V} (h : FzL K H a xs) : SqL K H a xs := SqX.sq (.inr h)
theorem SqX.obj {X : Cx} {pins : List (Addr × Obj)} {σ : L2.St} {H : Hp} {s : Shared} {a : Addr} {xs : List V} (I : Inv X pins σ H s) (h : SqX X.K H a xs) :
    ∃ (its : List Value) (n : Nat), Vals xs its ∧ s.heap.get? a = some { cls := .type "list", data := .seq its.toArray n } ∧ xs.length ≤ sizeLine := by
  rcases h with h | ⟨o, h⟩ | ⟨its, n, h, z, r⟩
  · obtain ⟨z, its, n, r, e⟩ := I.hok a _ h
    exact ⟨its, n, r, e, z⟩
  · obtain ⟨_, z, its, n, r, e⟩ := I.hok a _ h
    exact ⟨its, n, r, e, z⟩
  · exact ⟨its, n, r, I.kIn a _ h, by rw [r.length]; exact z⟩
mutual
/-- v is the datum d, and nothing of it is ever written -/
inductive Rep (K : PySem.W.Frag) (H : Hp) : V → D → Prop where
  | non : Rep K H .non .non
  | bl (b : Bool) : Rep K H (.bl b) (.bl b)
  | int (i : Int) : Rep K H (.int i) (.int i)
  | str (x : Str) : Rep K H (.str x) (.str x)
  | tup {a : Addr} {xs : List V} {ds : List D} : SqT K H a xs → Reps K H xs ds → Rep K H (.ref a) (.tup ds)
  | lst {a : Addr} {xs : List V} {ds : List D} : FzL K H a xs → Reps K H xs ds → Rep K H (.ref a) (.lst ds)
  | dic {a : Addr} {o : Obj} {kvs : List (Key × V)} {ks vs : List D} : H a = some (.frz o (.dK kvs)) → ks = kvs.map (fun kv => dK kv.1) → Reps K H (kvs.map (·.2)) vs → Rep K H (.ref a) (.dic ks vs)
  | obj {a C dx : Addr} {c : Nat} {fs : List (Str × V)} {ns : List Str} {ds : List D} : Wx.cls c = some (C, ns) → H a = some (.ins C dx fs) → fs ≠ [] → fs.map (·.1) = ns → Reps K H (fs.map (·.2)) ds → Rep K H (.ref a) (.obj c ds)
inductive Reps (K : PySem.W.Frag) (H : Hp) : List V → List D → Prop where
  | nil : Reps K H [] []
  | cons {v : V} {vs : List V} {d : D} {ds : List D} : Rep K H v d → Reps K H vs ds → Reps K H (v :: vs) (d :: ds)
end
/-- what is frozen stays -/
def FzS (H H' : Hp) : Prop := ∀ a o, H a = some o → isFz o → H' a = some o
theorem FzS.refl (H : Hp) : FzS H H := fun _ _ h _ => h
theorem FzS.trans {H H1 H2 : Hp} (h : FzS H H1) (h' : FzS H1 H2) : FzS H H2 := fun a o e f => h' a o (h a o e f) f
theorem FzS.of {H H' : Hp} (h : Same H H') : FzS H H' := fun a o e _ => h a o e
theorem FzS.sqT {K : PySem.W.Frag} {H H' : Hp} {a : Addr} {xs : List V} (h : FzS H H') (e : SqT K H a xs) : SqT K H' a xs := by
  rcases e with (e | ⟨o, e⟩) | e
  · exact .inl (.inl (h _ _ e trivial))
  · exact .inl (.inr ⟨o, h _ _ e trivial⟩)
  · exact .inr e
theorem FzS.fzL {K : PySem.W.Frag} {H H' : Hp} {a : Addr} {xs : List V} (h : FzS H H') (e : FzL K H a xs) : FzL K H' a xs := by
  rcases e with ⟨o, e⟩ | e
  · exact .inl ⟨o, h _ _ e trivial⟩
  · exact .inr e
section
variable {K : PySem.W.Frag} {H H' : Hp}
mutual
theorem Rep.mono (h : FzS H H') : ∀ {v : V} {d : D}, Rep K H v d → Rep K H' v d
  | _, _, .non => .non
  | _, _, .bl b => .bl b
  | _, _, .int i => .int i
  | _, _, .str x => .str x
  | _, _, .tup e r => .tup (h.sqT e) (Reps.mono h r)
  | _, _, .lst e r => .lst (h.fzL e) (Reps.mono h r)
  | _, _, .dic e k r => .dic (h _ _ e trivial) k (Reps.mono h r)
  | _, _, .obj c e n k r => .obj c (h _ _ e n) n k (Reps.mono h r)
theorem Reps.mono (h : FzS H H') : ∀ {vs : List V} {ds : List D}, Reps K H vs ds → Reps K H' vs ds
  | _, _, .nil => .nil
  | _, _, .cons a r => .cons (Rep.mono h a) (Reps.mono h r)
end
theorem Reps.length : ∀ {vs : List V} {ds : List D}, Reps K H vs ds → vs.length = ds.length
  | _, _, .nil => rfl
  | _, _, .cons _ r => congrArg (· + 1) (Reps.length r)
theorem Reps.get : ∀ {vs : List V} {ds : List D} {i : Nat} {d : D}, Reps K H vs ds → ds[i]? = some d → ∃ v, vs[i]? = some v ∧ Rep K H v d
  | _, _, _, _, .nil, e => by simp at e
  | _, _, 0, d, .cons r _, e => by simp at e; subst e; exact ⟨_, rfl, r⟩
  | _, _, i + 1, d, .cons _ t, e => by
    obtain ⟨u, h1, h2⟩ := Reps.get (i := i) (d := d) t (by simpa using e)
    exact ⟨u, by simpa using h1, h2⟩
theorem Reps.getV : ∀ {vs : List V} {ds : List D} {i : Nat} {v : V}, Reps K H vs ds → vs[i]? = some v → ∃ d, ds[i]? = some d ∧ Rep K H v d
  | _, _, _, _, .nil, e => by simp at e
  | _, _, 0, d, .cons r _, e => by simp at e; subst e; exact ⟨_, rfl, r⟩
  | _, _, i + 1, v, .cons _ t, e => by
    obtain ⟨u, h1, h2⟩ := Reps.getV (i := i) (v := v) t (by simpa using e)
    exact ⟨u, by simpa using h1, h2⟩
theorem Reps.append : ∀ {vs ws : List V} {ds es : List D}, Reps K H vs ds → Reps K H ws es → Reps K H (vs ++ ws) (ds ++ es)
  | _, _, _, _, .nil, s => s
  | _, _, _, _, .cons r t, s => .cons r (Reps.append t s)
theorem Reps.set {v : V} {d : D} (r : Rep K H v d) : ∀ {vs : List V} {ds : List D} (i : Nat), Reps K H vs ds → Reps K H (vs.set i v) (ds.set i d)
  | _, _, _, .nil => .nil
  | _, _, 0, .cons _ t => .cons r t
  | _, _, i + 1, .cons q t => .cons q (Reps.set r i t)
theorem Reps.take : ∀ {vs : List V} {ds : List D} (n : Nat), Reps K H vs ds → Reps K H (vs.take n) (ds.take n)
  | _, _, 0, _ => .nil
  | _, _, _ + 1, .nil => .nil
  | _, _, n + 1, .cons r t => .cons r (Reps.take n t)
theorem Reps.drop : ∀ {vs : List V} {ds : List D} (n : Nat), Reps K H vs ds → Reps K H (vs.drop n) (ds.drop n)
  | _, _, 0, r => r
  | _, _, _ + 1, .nil => .nil
  | _, _, n + 1, .cons _ t => Reps.drop n t
theorem Reps.rep {vs : List V} {ds : List D} (r : Reps K H vs ds) : ∀ n : Nat, Reps K H (List.replicate n vs).flatten (List.replicate n ds).flatten
  | 0 => .nil
  | n + 1 => by
    rw [List.replicate_succ, List.replicate_succ, List.flatten_cons, List.flatten_cons]
    exact r.append (Reps.rep r n)
mutual
theorem Rep.dp : ∀ {v : V} {d : D} {p : PyData}, Rep K H v d → toP d = some p → Dp K H v p
  | _, _, _, .non, e => by cases e; exact .non
  | _, _, _, .bl b, e => by cases e; exact .bl b
  | _, _, _, .int i, e => by cases e; exact .int i
  | _, _, _, .str x, e => by cases e; exact .str x
  | _, _, p, .tup h r, e => by
    unfold toP at e
    obtain ⟨ps, e1, e2⟩ := Option.map_eq_some_iff.mp e
    subst e2
    exact .tup h (Reps.dp r e1)
  | _, _, p, .lst h r, e => by
    unfold toP at e
    obtain ⟨ps, e1, e2⟩ := Option.map_eq_some_iff.mp e
    subst e2
    exact .lst h.sq (Reps.dp r e1)
  | _, _, p, .dic _ _ _, e => by cases e
  | _, _, p, .obj _ _ _ _ _, e => by cases e
theorem Reps.dp : ∀ {vs : List V} {ds : List D} {ps : List PyData}, Reps K H vs ds → toPs ds = some ps → DpAll K H vs ps
  | _, _, _, .nil, e => by cases e; exact .nil
  | _, _, ps, .cons (d := d) (ds := ds) a r, e => by
    unfold toPs at e
    cases e1 : toP d with
    | none => rw [e1] at e; cases e
    | some q =>
      cases e2 : toPs ds with
      | none => rw [e1, e2] at e; cases e
      | some qs =>
        rw [e1, e2] at e
        cases e
        exact .cons (Rep.dp a e1) (Reps.dp r e2)
end
end
/-- what a value is now (a list of one's own may change later) -/
def Nw (K : PySem.W.Frag) (H : Hp) (v : V) : D → Prop
  | .lst ds => ∃ a xs, v = .ref a ∧ SqX K H a xs ∧ Reps K H xs ds
  | .dic ks vs => ∃ a kvs, v = .ref a ∧ Rd H a (.dK kvs) ∧ ks = kvs.map (fun kv => dK kv.1) ∧ Reps K H (kvs.map (·.2)) vs
  | d => Rep K H v d
theorem Rep.nw {K : PySem.W.Frag} {H : Hp} {v : V} {d : D} (h : Rep K H v d) : Nw K H v d := by
  cases h with
  | lst e r => exact ⟨_, _, rfl, .inr e, r⟩
  | dic e k r => exact ⟨_, _, rfl, .inr ⟨_, e⟩, k, r⟩
  | non => exact .non
  | bl b => exact .bl b
  | int i => exact .int i
  | str x => exact .str x
  | tup e r => exact .tup e r
  | obj c e n k r => exact .obj c e n k r
theorem Nw.mono {K : PySem.W.Frag} {H H' : Hp} (h : Same H H') {v : V} {d : D} (r : Nw K H v d) : Nw K H' v d := by
  cases d with
  | lst ds =>
    obtain ⟨a, xs, e, q, r⟩ := r
    exact ⟨a, xs, e, q.elim (fun z => .inl (h _ _ z)) (fun z => .inr ((FzS.of h).fzL z)), r.mono (.of h)⟩
  | dic ks vs =>
    obtain ⟨a, kvs, e, q, k, r⟩ := r
    exact ⟨a, kvs, e, q.elim (fun z => .inl (h _ _ z)) (fun ⟨o, z⟩ => .inr ⟨o, h _ _ z⟩), k, r.mono (.of h)⟩
  | _ => exact Rep.mono (.of h) r
theorem Nw.dp {K : PySem.W.Frag} {H : Hp} {v : V} {d : D} {p : PyData} (r : Nw K H v d) (e : toP d = some p) : Dp K H v p := by
  cases d with
  | lst ds =>
    obtain ⟨a, xs, rfl, q, r⟩ := r
    unfold toP at e
    obtain ⟨ps, e1, e2⟩ := Option.map_eq_some_iff.mp e
    subst e2
    exact .lst q.sq (r.dp e1)
  | dic _ _ => cases e
  | _ => exact Rep.dp r e
/-- no table of code -/
def nT (o : HO) : Prop := ∀ ps, o ≠ .tbl ps
/-- nothing stands there, tables of code set aside -/
def Fr (H : Hp) (a : Addr) : Prop := ∀ o, nT o → H a ≠ some o
theorem Fr.of {H : Hp} {a : Addr} (h : H a = none) : Fr H a := fun o _ e => by rw [h] at e; cases e
theorem ow_nT {u : HO} (h : isOw u) : nT u := fun ps z => by rw [z] at h; exact h
theorem fz_nT {u : HO} (h : isFz u) : nT u := fun ps z => by rw [z] at h; exact h
/-- a new list of one's own, or a datum -/
def ValO (K : PySem.W.Frag) (H H' : Hp) (v : V) : D → Prop
  | .lst ds => ∃ a xs, v = .ref a ∧ Fr H a ∧ H' a = some (.lst xs) ∧ Reps K H' xs ds
  | .dic ks vs => ∃ a kvs, v = .ref a ∧ Fr H a ∧ H' a = some (.dK kvs) ∧ ks = kvs.map (fun kv => dK kv.1) ∧ Reps K H' (kvs.map (·.2)) vs
  | d => Rep K H' v d
theorem ValO.nw {K : PySem.W.Frag} {H H' : Hp} {v : V} {d : D} (h : ValO K H H' v d) : Nw K H' v d := by
  cases d with
  | lst ds =>
    obtain ⟨a, xs, e, _, h, r⟩ := h
    exact ⟨a, xs, e, .inl h, r⟩
  | dic ks vs =>
    obtain ⟨a, kvs, e, _, h, k, r⟩ := h
    exact ⟨a, kvs, e, .inl h, k, r⟩
  | _ => exact h

/-! ### a def's names -/
/-- lists of one's own at bs, one by one -/
inductive RwsOk (K : PySem.W.Frag) (H : Hp) : List Addr → List (List D) → Prop where
  | nil : RwsOk K H [] []
  | cons {b : Addr} {bs : List Addr} {xs : List V} {ds : List D} {rows : List (List D)} : H b = some (.lst xs) → Reps K H xs ds → RwsOk K H bs rows → RwsOk K H (b :: bs) (ds :: rows)
theorem RwsOk.mono {K : PySem.W.Frag} {H H' : Hp} (f : FzS H H') : ∀ {bs : List Addr} {rows : List (List D)}, RwsOk K H bs rows → (∀ b ∈ bs, ∀ u, isOw u → H b = some u → H' b = some u) → RwsOk K H' bs rows
  | _, _, .nil, _ => .nil
  | _, _, .cons h r t, k => .cons (k _ List.mem_cons_self _ trivial h) (r.mono f) (t.mono f fun b hb => k b (List.mem_cons_of_mem _ hb))
theorem RwsOk.lst {K : PySem.W.Frag} {H : Hp} : ∀ {bs : List Addr} {rows : List (List D)}, RwsOk K H bs rows → ∀ b ∈ bs, ∃ xs, H b = some (.lst xs)
  | _, _, .cons h r t, b, hb => by
    rcases List.mem_cons.mp hb with rfl | hb
    · exact ⟨_, h⟩
    · exact t.lst b hb
theorem RwsOk.len {K : PySem.W.Frag} {H : Hp} : ∀ {bs : List Addr} {rows : List (List D)}, RwsOk K H bs rows → bs.length = rows.length
  | _, _, .nil => rfl
  | _, _, .cons h r t => congrArg (· + 1) t.len
theorem RwsOk.get {K : PySem.W.Frag} {H : Hp} : ∀ {bs : List Addr} {rows : List (List D)} {i : Nat} {ds : List D}, RwsOk K H bs rows → rows[i]? = some ds → ∃ b xs, bs[i]? = some b ∧ H b = some (.lst xs) ∧ Reps K H xs ds
  | _, _, _, _, .nil, e => by simp at e
  | _, _, 0, _, .cons h r t, e => by simp at e; subst e; exact ⟨_, _, rfl, h, r⟩
  | _, _, i + 1, _, .cons h r t, e => by
    obtain ⟨b, xs, h1, h2, h3⟩ := t.get (i := i) (by simpa using e)
    exact ⟨b, xs, by simpa using h1, h2, h3⟩
def SlotOk (K : PySem.W.Frag) (H : Hp) (o : Option (Option V)) : Slot → List Addr → Prop
  | .no, f => f = []
  | .fz d, f => (∃ v, o = some (some v) ∧ Rep K H v d) ∧ f = []
  | .ow ds, f => ∃ a xs, o = some (some (.ref a)) ∧ H a = some (.lst xs) ∧ Reps K H xs ds ∧ f = [a]
  | .om rows, f => ∃ a bs, o = some (some (.ref a)) ∧ H a = some (.lst (bs.map V.ref)) ∧ RwsOk K H bs rows ∧ f = a :: bs ∧ f.Nodup
  | .slf c, f => ∃ p C dx ns, o = some (some (.ref p)) ∧ Wx.cls c = some (C, ns) ∧ H p = some (.ins C dx []) ∧ f = [p]
  | .od ks vs, f => ∃ a kvs, o = some (some (.ref a)) ∧ H a = some (.dK kvs) ∧ ks = kvs.map (fun kv => dK kv.1) ∧ Reps K H (kvs.map (·.2)) vs ∧ f = [a]
abbrev Fp := Nat → List Addr
def Own (φ : Fp) (a : Addr) : Prop := ∃ i, a ∈ φ i
structure EnvOk (K : PySem.W.Frag) (H : Hp) (σ : L2.St) (en : En) (φ : Fp) : Prop where
  len : σ.length = en.length
  slot : ∀ i, SlotOk K H σ[i]? (getS en i) (φ i)
  dis : ∀ i j a, a ∈ φ i → a ∈ φ j → i = j
  tb : LamX.Tabs Wx.tabs H
/-- what tables of code speak of -/
def isTb : HO → Prop
  | .tbl _ => True
  | .ext _ => True
  | _ => False
theorem ow_ntb {u : HO} (h : isOw u) : ¬ isTb u := by cases u <;> first | exact h.elim | exact fun z => z
theorem tabs_keep {T : List (Addr × Str)} {H H' : Hp} (t : LamX.Tabs T H) (e : ∀ b o, isTb o → H b = some o → H' b = some o) : LamX.Tabs T H' := fun p hp => by
  obtain ⟨ps, h1, h2, h3⟩ := t p hp
  refine ⟨ps, e _ _ trivial h1, h2, fun pos cv hc => ?_⟩
  obtain ⟨c, e1, e2⟩ := h3 pos cv hc
  exact ⟨c, e1, e _ _ (by unfold LamX.CodeO; trivial) e2⟩
theorem tabs_upd {T : List (Addr × Str)} {H : Hp} {a : Addr} {u w : HO} (t : LamX.Tabs T H) (h : H a = some u) (hu : ¬ isTb u) : LamX.Tabs T (upd H a w) :=
  tabs_keep t fun b o i e => (upd_ne fun z => by rw [z, h] at e; cases e; exact hu i).trans e
theorem tabs_same {T : List (Addr × Str)} {H H' : Hp} (t : LamX.Tabs T H) (s : Same H H') : LamX.Tabs T H' := tabs_keep t fun b o _ e => s b o e
/-- what may have changed: what is one's own; what is frozen stays -/
structure Evo (H : Hp) (O : Addr → Prop) (H' : Hp) : Prop where
  keep : ∀ a o, ¬ O a → nT o → H a = some o → H' a = some o
  fz : FzS H H'
  tb : LamX.Tabs Wx.tabs H → LamX.Tabs Wx.tabs H'
theorem Evo.refl {H : Hp} {O : Addr → Prop} : Evo H O H := ⟨fun _ _ _ _ h => h, .refl H, fun h => h⟩
theorem Evo.of {H H' : Hp} {O : Addr → Prop} (h : Same H H') : Evo H O H' := ⟨fun a o _ _ e => h a o e, .of h, fun t => tabs_same t h⟩
/-- one's own is written -/
theorem Evo.upd {H : Hp} {O : Addr → Prop} {a : Addr} {u w : HO} (h : H a = some u) (hu : isOw u) (ha : O a ∨ False) (fz : FzS H (upd H a w)) : Evo H O (L2.upd H a w) :=
  ⟨fun b o n _ e => (upd_ne fun z => n (by rw [z]; exact ha.elim id False.elim)).trans e, fz, fun t => tabs_upd t h (ow_ntb hu)⟩
theorem Evo.trans {H H1 H2 : Hp} {O O1 : Addr → Prop} (h : Evo H O H1) (hO : ∀ a, O1 a → O a ∨ Fr H a) (h' : Evo H1 O1 H2) : Evo H O H2 :=
  ⟨fun a o n k e => h'.keep a o (fun z => (hO a z).elim n fun q => q o k e) k (h.keep a o n k e), h.fz.trans h'.fz, fun t => h'.tb (h.tb t)⟩
theorem Evo.trans' {H H1 H2 : Hp} {O : Addr → Prop} (h : Evo H O H1) (h' : Evo H1 O H2) : Evo H O H2 := h.trans (fun _ z => .inl z) h'
theorem Evo.sub {H H' : Hp} {O O' : Addr → Prop} (h : Evo H O H') (s : ∀ a, O a → O' a) : Evo H O' H' := ⟨fun a o n k e => h.keep a o (fun z => n (s a z)) k e, h.fz, h.tb⟩
theorem EnvOk.mono {K : PySem.W.Frag} {H H' : Hp} {σ : L2.St} {en : En} {φ : Fp} (h : EnvOk K H σ en φ) (s : Same H H') : EnvOk K H' σ en φ :=
  ⟨h.len, fun i => by
    have q := h.slot i
    cases e : getS en i with
    | no => rw [e] at q; exact q
    | fz d =>
      rw [e] at q
      obtain ⟨⟨v, e1, r⟩, e2⟩ := q
      exact ⟨⟨v, e1, r.mono (.of s)⟩, e2⟩
    | ow ds =>
      rw [e] at q
      obtain ⟨a, xs, e1, e2, r, e3⟩ := q
      exact ⟨a, xs, e1, s _ _ e2, r.mono (.of s), e3⟩
    | om rows =>
      rw [e] at q
      obtain ⟨a, bs, e1, e2, r, e3, e4⟩ := q
      exact ⟨a, bs, e1, s _ _ e2, r.mono (.of s) fun b _ u _ z => s _ _ z, e3, e4⟩
    | slf c =>
      rw [e] at q
      obtain ⟨p, C, dx, ns, e1, e2, e3, e4⟩ := q
      exact ⟨p, C, dx, ns, e1, e2, s _ _ e3, e4⟩
    | od ks vs =>
      rw [e] at q
      obtain ⟨a, kvs, e1, e2, k, r, e3⟩ := q
      exact ⟨a, kvs, e1, s _ _ e2, k, r.mono (.of s), e3⟩, h.dis, tabs_same h.tb s⟩
theorem EnvOk.fz {K : PySem.W.Frag} {H : Hp} {σ : L2.St} {en : En} {φ : Fp} (h : EnvOk K H σ en φ) {i : Nat} {d : D} (e : getS en i = .fz d) : ∃ v, σ[i]? = some (some v) ∧ Rep K H v d := by
  have q := h.slot i
  rw [e] at q
  exact q.1
theorem EnvOk.ow {K : PySem.W.Frag} {H : Hp} {σ : L2.St} {en : En} {φ : Fp} (h : EnvOk K H σ en φ) {i : Nat} {ds : List D} (e : getS en i = .ow ds) :
    ∃ a xs, σ[i]? = some (some (.ref a)) ∧ H a = some (.lst xs) ∧ Reps K H xs ds ∧ φ i = [a] := by
  have q := h.slot i
  rw [e] at q
  exact q
theorem EnvOk.od {K : PySem.W.Frag} {H : Hp} {σ : L2.St} {en : En} {φ : Fp} (h : EnvOk K H σ en φ) {i : Nat} {ks vs : List D} (e : getS en i = .od ks vs) :
    ∃ a kvs, σ[i]? = some (some (.ref a)) ∧ H a = some (.dK kvs) ∧ ks = kvs.map (fun kv => dK kv.1) ∧ Reps K H (kvs.map (·.2)) vs ∧ φ i = [a] := by
  have q := h.slot i
  rw [e] at q
  exact q
/-- what is one's own is a list or a dict -/
theorem EnvOk.own {K : PySem.W.Frag} {H : Hp} {σ : L2.St} {en : En} {φ : Fp} (h : EnvOk K H σ en φ) {a : Addr} (o : Own φ a) : ∃ u, H a = some u ∧ isOw u := by
  obtain ⟨i, hi⟩ := o
  have q := h.slot i
  cases e : getS en i with
  | no => rw [e] at q; rw [show φ i = [] from q] at hi; cases hi
  | fz d => rw [e] at q; rw [q.2] at hi; cases hi
  | ow ds =>
    rw [e] at q
    obtain ⟨b, xs, _, e2, _, e3⟩ := q
    rw [e3] at hi
    have z : a = b := by simpa using hi
    subst z
    exact ⟨_, e2, trivial⟩
  | om rows =>
    rw [e] at q
    obtain ⟨b, bs, _, e2, r, e3, _⟩ := q
    rw [e3] at hi
    rcases List.mem_cons.mp hi with rfl | hi
    · exact ⟨_, e2, trivial⟩
    · obtain ⟨xs, z⟩ := r.lst a hi
      exact ⟨_, z, trivial⟩
  | slf c =>
    rw [e] at q
    obtain ⟨p, C, dx, ns, _, _, e3, e4⟩ := q
    rw [e4] at hi
    obtain rfl := List.mem_singleton.mp hi
    exact ⟨_, e3, rfl⟩
  | od ks vs =>
    rw [e] at q
    obtain ⟨b, xs, _, e2, _, _, e3⟩ := q
    rw [e3] at hi
    have z : a = b := by simpa using hi
    subst z
    exact ⟨_, e2, trivial⟩
theorem tabs_own {K : PySem.W.Frag} {H H' : Hp} {σ : L2.St} {en : En} {φ : Fp} (h : EnvOk K H σ en φ) (k : ∀ b u, ¬ Own φ b → H b = some u → H' b = some u) : LamX.Tabs Wx.tabs H' := tabs_keep h.tb fun b o i e => k b o (fun z => by
  obtain ⟨u, e', hu⟩ := h.own z
  rw [e] at e'
  cases e'
  exact ow_ntb hu i) e
theorem evo_keep {K : PySem.W.Frag} {H H' : Hp} {σ : L2.St} {en : En} {φ : Fp} (h : EnvOk K H σ en φ) (k : ∀ b u, ¬ Own φ b → H b = some u → H' b = some u) (fz : FzS H H') : Evo H (Own φ) H' :=
  ⟨fun b u n _ e => k b u n e, fz, fun _ => tabs_own h k⟩
/-! ### a ghost step: a list or a dict of one's own is frozen -/
def frzAt (H : Hp) (a : Addr) (o : Obj) (u : HO) : Hp := upd H a (.frz o u)
theorem fzS_frz {H : Hp} {a : Addr} {o : Obj} {u : HO} (h : H a = some u) (hu : isOw u) : FzS H (frzAt H a o u) := fun b w e f => by
  by_cases z : b = a
  · subst z; rw [h] at e; cases e; exact absurd f (ow_notFz hu)
  · exact (upd_ne z).trans e
theorem EnvOk.om {K : PySem.W.Frag} {H : Hp} {σ : L2.St} {en : En} {φ : Fp} (h : EnvOk K H σ en φ) {i : Nat} {rows : List (List D)} (e : getS en i = .om rows) :
    ∃ a bs, σ[i]? = some (some (.ref a)) ∧ H a = some (.lst (bs.map V.ref)) ∧ RwsOk K H bs rows ∧ φ i = a :: bs ∧ (a :: bs).Nodup := by
  have q := h.slot i
  rw [e] at q
  obtain ⟨a, bs, e1, e2, r, e3, e4⟩ := q
  exact ⟨a, bs, e1, e2, r, e3, by rw [e3] at e4; exact e4⟩
theorem ow_obj {P : Program} {w : World} {H : Hp} {h : Heap} {a : Addr} {u : HO} (hu : isOl u) (x : ObjOk P w H h a u) : ∃ o, h.get? a = some o := by
  cases u <;> try exact hu.elim
  · obtain ⟨_, its, n, _, e⟩ := x
    exact ⟨_, e⟩
  · obtain ⟨_, _, vs, _, o, es, ep, e, _⟩ := x
    exact ⟨_, e⟩
theorem inv_frz {X : Cx} {pins : List (Addr × Obj)} {σ : L2.St} {H : Hp} {s : Shared} {a : Addr} {u : HO} (I : Inv X pins σ H s) (h : H a = some u) (hu : isOl u) : ∃ o, Inv X pins σ (frzAt H a o u) s := by
  obtain ⟨ob, e⟩ := ow_obj hu (I.hok a _ h)
  refine ⟨ob, ?_⟩
  have ne : ∀ b w, H b = w → w ≠ some u → frzAt H a ob u b = w := fun b w e1 e2 =>
    (upd_ne (fun z => by rw [z, h] at e1; exact e2 e1.symm)).trans e1
  have un : Un X.fs [] H (frzAt H a ob u) s.heap s.heap :=
    ⟨fun b o e _ _ _ => e, fun b o e _ _ _ => ⟨o.slots, e⟩, fun b o _ q _ => ne b _ q (fun z => nomatch z), fun b o e _ => ⟨o, e⟩, fun b ys q => ne b _ q (fun z => by cases z; exact hu),
      fun b o w q => ne b _ q (fun z => by cases z; exact hu), fun b ps q => ⟨#[], by rw [ne b _ q (fun z => by cases z; exact hu)]; simp⟩⟩
  have stay : ∀ b w, H b = some w → ObjOk X.prog X.w (frzAt H a ob u) s.heap b w := fun b w q =>
    (I.hok b w q).stay (fun _ _ _ r => r) (fun c r => ne c _ r (fun z => by cases z; exact hu)) fun c ys r => ne c _ r (fun z => by cases z; exact hu)
  refine I.un (t' := s.toks) un fun b w q => ?_
  by_cases hb : b = a
  · subst hb
    have q' : some (HO.frz ob u) = some w := upd_same.symm.trans q
    cases q'
    exact ⟨e, stay b u h⟩
  · have q : H b = some w := (upd_ne hb).symm.trans q
    exact stay b w q
/-- an exception of the class c with the place p: its class, its dict -/
def ExcAt (K : PySem.W.Frag) (H : Hp) (cls : Value) (d : Option Addr) (c : Nat) (p : D) : Prop :=
  ∃ (C dx : Addr) (fs : List (Str × V)) (v : V), Wx.exc c = some C ∧ cls = .ref C ∧ d = some dx ∧ H dx = some (.xd fs) ∧ fs.lookup ("place" : Str) = some v ∧ Rep K H v p
end Vi

/-! Vi, part 3: the machine's operations on such data. -/
namespace Vi
open PySem PySem.Spec PyProof.Rows
open L2
variable [Wx]

theorem line_eq : line = sizeLine := by rw [sizeLine_eq]; rfl
def astB : BOp → Operator
  | .add => .Add | .sub => .Sub | .mul => .Mult | .fdiv => .FloorDiv | .mod => .Mod | .pow => .Pow
  | .shl => .LShift | .shr => .RShift | .band => .BitAnd | .bor => .BitOr | .bxor => .BitXor
def astC : COp → CmpOp
  | .eq => .Eq | .ne => .NotEq | .lt => .Lt | .le => .LtE | .gt => .Gt | .ge => .GtE
  | .isin => .In | .notin => .NotIn | .is => .Is | .isnot => .IsNot
section
variable {K : PySem.W.Frag} {H H' : Hp} {v : V}
theorem nw_int {i : Int} (h : Nw K H v (.int i)) : v = .int i := by cases h; rfl
theorem nw_bl {b : Bool} (h : Nw K H v (.bl b)) : v = .bl b := by cases h; rfl
theorem nw_str {x : Str} (h : Nw K H v (.str x)) : v = .str x := by cases h; rfl
theorem nw_non (h : Nw K H v .non) : v = .non := by cases h; rfl
theorem nw_lst {ds : List D} (h : Nw K H v (.lst ds)) : ∃ a xs, v = .ref a ∧ SqX K H a xs ∧ Reps K H xs ds := h
theorem nw_tup {ds : List D} (h : Nw K H v (.tup ds)) : ∃ a xs, v = .ref a ∧ SqT K H a xs ∧ Reps K H xs ds := by
  cases h with
  | tup e r => exact ⟨_, _, rfl, e, r⟩
theorem reps_ints : ∀ {vs : List V} {ds : List D} {ns : List Int}, Reps K H vs ds → intsD ds = .ok ns → vs = ns.map V.int
  | _, _, ns, .nil, e => by cases e; rfl
  | _, _, ns, .cons (d := d) (ds := ds) a r, e => by
    unfold intsD at e
    obtain ⟨i, e1, e⟩ := Res.bind_ok e
    obtain ⟨is, e2, e⟩ := Res.bind_ok e
    cases e
    cases d <;> first
      | (cases e1; cases a; rw [reps_ints r e2]; rfl)
      | exact nomatch e1
theorem reps_bls : ∀ {vs : List V} {ds : List D} {ns : List Bool}, Reps K H vs ds → blsD ds = .ok ns → vs = ns.map V.bl
  | _, _, ns, .nil, e => by cases e; rfl
  | _, _, ns, .cons (d := d) (ds := ds) a r, e => by
    unfold blsD at e
    obtain ⟨i, e1, e⟩ := Res.bind_ok e
    obtain ⟨is, e2, e⟩ := Res.bind_ok e
    cases e
    cases d <;> first
      | (cases e1; cases a; rw [reps_bls r e2]; rfl)
      | exact nomatch e1
end
theorem same_upd {H : Hp} {p : Addr} {o : HO} (h : H p = none) : Same H (upd H p o) := fun b u e => (upd_ne (ne_of_none e h)).trans e
theorem fzS_upd {H : Hp} {p : Addr} {o : HO} (h : ∀ u, H p = some u → ¬ isFz u) : FzS H (upd H p o) := fun b u e f => (upd_ne (fun z => by rw [z] at e; exact h u e f)).trans e
/-- a new list, a new tuple -/
theorem valO_lst {K : PySem.W.Frag} {H : Hp} {p : Addr} {xs : List V} {ds : List D} (h : H p = none) (r : Reps K H xs ds) : ValO K H (upd H p (.lst xs)) (.ref p) (.lst ds) :=
  ⟨p, xs, rfl, .of h, upd_same, r.mono (.of (same_upd h))⟩
theorem rep_newT {K : PySem.W.Frag} {H : Hp} {p : Addr} {xs : List V} {ds : List D} (h : H p = none) (r : Reps K H xs ds) : Rep K (upd H p (.tup xs)) (.ref p) (.tup ds) :=
  .tup (.of upd_same) (r.mono (.of (same_upd h)))
/-- two data in, a datum out -/
def rO (K : PySem.W.Frag) (f : D → D → Res D) : R2 := fun x y H Q => ∃ d e c, Nw K H x d ∧ Nw K H y e ∧ f d e = .ok c ∧ ∀ v H', ValO K H H' v c → Same H H' → Q v H'
/-- one end of an operation: the same heap -/
theorem ofD {K : PySem.W.Frag} {H : Hp} {Q : VK} {v : V} {c : D} (q : ∀ v H', ValO K H H' v c → Same H H' → Q v H') (h : ValO K H H v c) : Q v H := q v H h (.refl H)

section
variable {X : Cx}
theorem smallB_ok {i : Int} (h : smallB i = true) : -(2 ^ 64) < i ∧ i < 2 ^ 64 := by
  unfold smallB at h
  rw [Bool.and_eq_true] at h
  exact ⟨of_decide_eq_true h.1, of_decide_eq_true h.2⟩
theorem op_binI (op : BOp) : OpR X (binaryOp (astB op)) (fun x y H Q => ∃ i j c, x = .int i ∧ y = .int j ∧ binI op i j = .ok c ∧ ∀ k, c = .int k → Q (.int k) H) := by
  intro pins s σ H x y v u Q I rx ry h
  obtain ⟨i, j, c, rfl, rfl, e, q⟩ := h
  cases op with
  | add => cases e; exact op_add pins s σ H _ _ v u Q I rx ry ⟨i, j, rfl, rfl, q _ rfl⟩
  | sub => cases e; exact op_sub pins s σ H _ _ v u Q I rx ry ⟨i, j, rfl, rfl, q _ rfl⟩
  | mul =>
    simp only [binI] at e
    split at e
    · rename_i h
      cases e
      refine op_mul pins s σ H _ _ v u Q I rx ry ⟨i, j, rfl, rfl, ?_, q _ rfl⟩
      rw [Bool.or_eq_true] at h
      exact h.imp smallB_ok smallB_ok
    · cases e
  | fdiv =>
    simp only [binI] at e
    split at e
    · rename_i h
      cases e
      exact op_fdiv pins s σ H _ _ v u Q I rx ry ⟨i, j, rfl, rfl, h, q _ rfl⟩
    · cases e
  | mod =>
    simp only [binI] at e
    split at e
    · rename_i h
      cases e
      exact op_mod pins s σ H _ _ v u Q I rx ry ⟨i, j, rfl, rfl, h, q _ rfl⟩
    · cases e
  | pow =>
    simp only [binI] at e
    split at e
    · rename_i h
      cases e
      exact op_pow pins s σ H _ _ v u Q I rx ry ⟨i, j, rfl, rfl, h, q _ rfl⟩
    · cases e
  | shl =>
    simp only [binI] at e
    split at e
    · rename_i h
      cases e
      exact op_shl pins s σ H _ _ v u Q I rx ry ⟨i, j, rfl, rfl, h, q _ rfl⟩
    · cases e
  | shr =>
    simp only [binI] at e
    split at e
    · rename_i h
      cases e
      exact op_shr pins s σ H _ _ v u Q I rx ry ⟨i, j, rfl, rfl, h, q _ rfl⟩
    · cases e
  | band => cases e; exact op_and pins s σ H _ _ v u Q I rx ry ⟨i, j, rfl, rfl, q _ rfl⟩
  | bor => cases e; exact op_or pins s σ H _ _ v u Q I rx ry ⟨i, j, rfl, rfl, q _ rfl⟩
  | bxor => cases e; exact op_xor pins s σ H _ _ v u Q I rx ry ⟨i, j, rfl, rfl, q _ rfl⟩
theorem binI_int {op : BOp} {i j : Int} {c : D} (e : binI op i j = .ok c) : ∃ k, c = .int k := by
  cases op <;> simp only [binI] at e <;> first
    | (cases e; exact ⟨_, rfl⟩)
    | (split at e <;> first | (cases e; exact ⟨_, rfl⟩) | exact nomatch e)
theorem op_catX : OpR X (binaryOp .Add) (fun x y H Q => ∃ a b xs ys, x = .ref a ∧ y = .ref b ∧ SqX X.K H a xs ∧ SqX X.K H b ys ∧ xs.length + ys.length ≤ sizeLine ∧ ∀ p, H p = none → Q (.ref p) (upd H p (.lst (xs ++ ys)))) := by
  intro pins s σ H x y v u Q I rx ry h
  obtain ⟨a, b, xs, ys, rfl, rfl, ha, hb, hz, q⟩ := h
  cases rx; cases ry
  obtain ⟨us, n, r1, e1, _⟩ := SqX.obj I ha
  obtain ⟨ws, m, r2, e2, _⟩ := SqX.obj I hb
  refine PySem.P.add_list e1 e2 ?_ ?_
  · rw [List.append_toArray]
    exact ⟨V.ref s.heap.objs.size, upd H s.heap.objs.size (.lst (xs ++ ys)), I.lnew (t' := s.toks) (r1.append r2) (by rw [List.length_append]; exact hz), rfl, q _ I.fresh⟩
  · rw [List.size_toArray, List.size_toArray, ← r1.length, ← r2.length]
    exact hz
theorem op_repX : OpR X (binaryOp .Mult) (fun x y H Q => ∃ a k xs, x = .ref a ∧ y = .int k ∧ SqX X.K H a xs ∧ (-(2 ^ 63) ≤ k ∧ k < 2 ^ 63) ∧ xs.length * k.toNat ≤ sizeLine ∧ ∀ p, H p = none → Q (.ref p) (upd H p (.lst (List.replicate k.toNat xs).flatten))) := by
  intro pins s σ H x y v u Q I rx ry h
  obtain ⟨a, k, xs, rfl, rfl, ha, ⟨k1, k2⟩, hz, q⟩ := h
  cases rx
  obtain ⟨t, rfl⟩ := ry
  obtain ⟨us, n, r1, e1, _⟩ := SqX.obj I ha
  have z1 : us.toArray.size * k.toNat ≤ sizeLine := by rw [List.size_toArray, ← r1.length]; exact hz
  have f1 : ¬ us.toArray.size * k.toNat > (2 ^ 63 - 1) / 8 := by rw [sizeLine_eq] at z1; omega
  have f2 : ¬ (!Builtin.List.listFitsIndex k) = true := by rw [fitsIndex_both k1 k2]; exact Bool.false_ne_true
  have f3 : ¬ Builtin.List.listTooLong (us.toArray.size * k.toNat) = true := by rw [notLongL z1]; exact Bool.false_ne_true
  have f4 : ∀ m : Nat, List.foldl (fun p w => p ++ w) #[] (List.replicate m us.toArray) = (List.replicate m us).flatten.toArray := fun m => by
    have z := foldl_rep us m []
    rw [List.nil_append] at z
    exact z
  have f5 : List.foldl (fun p w => p ++ w) #[] (List.replicate (if us.toArray.isEmpty = true then 0 else k.toNat) us.toArray) = (List.replicate k.toNat us).flatten.toArray := by
    rw [f4]
    cases us with
    | nil => simp
    | cons c r => rw [if_neg (by simp)]
  refine wpAny_binaryOp_repeat_ref (T := "list") (U := "int") (by decide) ⟨_, e1, rfl⟩ (fun z => typeIs_int z k t) noFill_list_mul F.fills_int_mul F.slot_int_rmul repeat_list
    F.slot_int_index.lookup (call_meets F.slot_int_rmul (typeIs_int s k t) F.entry_int_rmul (F.args_int_rmul_2 _ _)
      (int___rmul___int_list k t a us.toArray n) ⟨e1, rfl, ⟨_, e1, rfl⟩, ?_⟩)
  refine call_meets F.slot_list_mul ⟨_, e1, rfl⟩ F.entry_list_mul (F.args_list_mul_2 _ _)
    (AutoListH.list___mul___list_int_3 a us.toArray n k t f2 f1 f3) ⟨e1, ?_⟩
  rw [f5]
  refine ⟨V.ref s.heap.objs.size, upd H s.heap.objs.size (.lst (List.replicate k.toNat xs).flatten), I.lnew (t' := s.toks) (r1.rep k.toNat) ?_, rfl, q _ I.fresh⟩
  rw [PyProof.Rows.lm_len_rep_flat, Nat.mul_comm]
  exact hz
theorem tupMul1 (l : Addr) (items : Array Value) (n : Nat) (dd : Option Addr) (sl : Array (Option Value)) (u : Tok) :
    Meets (Builtin.«tuple.__mul__» ⟨[.ref l, .int 1 u], []⟩) (fun _ R s => s.heap.get? l = some { cls := .type "tuple", dict := dd, data := .seq items n, slots := sl } ∧ R (.ok (.ret (.ref l))) s) := by
  refine .of_wp fun prog w A R s h => ?_
  obtain ⟨hp, g, d, tk, os⟩ := s
  obtain ⟨hl, h⟩ := h
  have f1 := AutoSeq1.idx_int
  wp_walk using wpAny_loadPart' hl
  exact ⟨_, rfl, h⟩
theorem op_repT1 : OpR X (binaryOp .Mult) (fun x y H Q => ∃ a xs, x = .ref a ∧ y = .int 1 ∧ SqT X.K H a xs ∧ Q (.ref a) H) := by
  intro pins s σ H x y v u Q I rx ry h
  obtain ⟨l, xs, rfl, rfl, hT, q⟩ := h
  cases rx
  obtain ⟨t, rfl⟩ := ry
  obtain ⟨its, r, ⟨⟨cls, dd, data, sl⟩, ho, hc, n, hd⟩, hs⟩ := I.tuple hT
  simp only at hc hd
  subst hc hd
  exact wpAny_binaryOp_repeat_ref (T := "tuple") (U := "int") (by decide) ⟨_, ho, rfl⟩ (fun s' => typeIs_int s' 1 t) noFill_tuple_mul F.fills_int_mul F.slot_int_rmul repeat_tuple F.slot_int_index.lookup
    (call_meets F.slot_int_rmul (typeIs_int s 1 t) F.entry_int_rmul (F.args_int_rmul_2 _ _) (int_rmul_tuple 1 t l its.toArray n dd sl) ⟨ho, rfl, ⟨_, ho, rfl⟩, call_meets F.slot_tuple_mul ⟨_, ho, rfl⟩ F.entry_tuple_mul (F.args_tuple_mul_2 _ _) (tupMul1 l its.toArray n dd sl t) ⟨ho, ⟨.ref l, H, I, rfl, q⟩⟩⟩)
theorem op_repTX : OpR X (binaryOp .Mult) (fun x y H Q => ∃ a k xs, x = .ref a ∧ y = .int k ∧ SqT X.K H a xs ∧ (xs ≠ [] ∧ 2 ≤ k ∧ k ≤ 1000 ∧ xs.length ≤ 1000) ∧ ∀ p, H p = none → Q (.ref p) (upd H p (.tup (List.replicate k.toNat xs).flatten))) := by
  intro pins s σ H x y v u Q I rx ry h
  obtain ⟨a, k, xs, rfl, rfl, ha, ⟨h1, h2, h3, h4⟩, q⟩ := h
  exact op_repT pins s σ H _ _ v u Q I rx ry ⟨a, k, xs, rfl, rfl, ha, h1, h2, h3, h4, q⟩
theorem op_bin (op : BOp) : OpR X (binaryOp (astB op)) (rO X.K (binD op)) := by
  intro pins s σ H x y v u Q I rx ry h
  obtain ⟨d, e, c, hd, he, hc, q⟩ := h
  unfold binD at hc
  split at hc
  · rename_i i j
    obtain rfl := nw_int hd
    obtain rfl := nw_int he
    refine op_binI op pins s σ H _ _ v u Q I rx ry ⟨i, j, c, rfl, rfl, hc, fun k ek => ?_⟩
    subst ek
    exact ofD q (.int k)
  · rename_i ds es
    split at hc
    · rename_i z
      obtain ⟨rfl, z⟩ := z
      cases hc
      obtain ⟨a, xs, rfl, ha, ra⟩ := nw_lst hd
      obtain ⟨b, ys, rfl, hb, rb⟩ := nw_lst he
      refine op_catX pins s σ H _ _ v u Q I rx ry ⟨a, b, xs, ys, rfl, rfl, ha, hb, by rw [ra.length, rb.length, ← line_eq]; exact z, fun p hp => ?_⟩
      exact q _ _ (valO_lst hp (ra.append rb)) (same_upd hp)
    · cases hc
  · rename_i ds es
    split at hc
    · rename_i z
      obtain ⟨rfl, z⟩ := z
      cases hc
      obtain ⟨a, xs, rfl, ha, ra⟩ := nw_tup hd
      obtain ⟨b, ys, rfl, hb, rb⟩ := nw_tup he
      refine op_catA pins s σ H _ _ v u Q I rx ry ⟨a, b, xs, ys, rfl, rfl, ha, hb, by rw [ra.length, rb.length, ← line_eq]; exact z, fun e1 => ?_, fun n1 e2 => ?_, fun n1 n2 p hp => ?_⟩
      · subst e1
        cases ra
        exact ofD q (.tup hb rb)
      · subst e2
        cases rb
        rw [List.append_nil] at q
        exact ofD q (.tup ha ra)
      · exact q _ _ (rep_newT hp (ra.append rb)) (same_upd hp)
    · cases hc
  · rename_i a b
    split at hc
    · rename_i z
      obtain ⟨rfl, z⟩ := z
      cases hc
      obtain rfl := nw_str hd
      obtain rfl := nw_str he
      exact op_add_str pins s σ H _ _ v u Q I rx ry ⟨a, b, rfl, rfl, by rw [← line_eq]; exact z, ofD q (.str _)⟩
    · cases hc
  · rename_i ds k
    split at hc
    · rename_i z
      obtain ⟨rfl, z1, z2, z3⟩ := z
      cases hc
      obtain ⟨a, xs, rfl, ha, ra⟩ := nw_lst hd
      obtain rfl := nw_int he
      refine op_repX pins s σ H _ _ v u Q I rx ry ⟨a, k, xs, rfl, rfl, ha, ⟨z1, z2⟩, by rw [ra.length, ← line_eq]; exact z3, fun p hp => ?_⟩
      exact q _ _ (valO_lst hp (ra.rep _)) (same_upd hp)
    · cases hc
  · rename_i ds k
    split at hc
    · rename_i z
      obtain ⟨rfl, z1, z2, z3, z4⟩ := z
      cases hc
      obtain ⟨a, xs, rfl, ha, ra⟩ := nw_tup hd
      obtain rfl := nw_int he
      by_cases k1 : k = 1
      · subst k1
        refine op_repT1 pins s σ H _ _ v u Q I rx ry ⟨a, xs, rfl, rfl, ha, q _ _ ?_ fun _ _ e => e⟩
        rw [show (List.replicate (1 : Int).toNat ds).flatten = ds by simp]
        exact hd
      refine op_repTX pins s σ H _ _ v u Q I rx ry ⟨a, k, xs, rfl, rfl, ha, ⟨fun z => ?_, by omega, z3, by rw [ra.length]; exact z4⟩, fun p hp => ?_⟩
      · subst z
        cases ra
        cases z1
      · exact q _ _ (rep_newT hp (ra.rep _)) (same_upd hp)
    · cases hc
  · cases hc
/-! comparisons -/
def rB (K : PySem.W.Frag) (f : D → D → Res Bool) : R2 := fun x y H Q => ∃ d e b, Nw K H x d ∧ Nw K H y e ∧ f d e = .ok b ∧ Q (.bl b) H
theorem eqD_ok {d e : D} {b : Bool} (h : eqD d e = .ok b) : ∃ p q, toP d = some p ∧ toP e = some q ∧ SeqAt.shaped p = true ∧ SeqAt.shaped q = true ∧ b = PyData.eqv p q := by
  unfold eqD at h
  cases h1 : toP d with
  | none => rw [h1] at h; cases h
  | some p =>
    cases h2 : toP e with
    | none => rw [h1, h2] at h; cases h
    | some q =>
      rw [h1, h2] at h
      simp only at h
      split at h
      · rename_i z
        cases h
        exact ⟨p, q, rfl, rfl, z.1, z.2, rfl⟩
      · cases h
theorem op_eqX (hu : X.A.units + 64 < cLine) : OpR X (compareOp .Eq) (rB X.K (cmpD .eq)) := by
  intro pins s σ H x y v u Q I rx ry h
  obtain ⟨d, e, b, hd, he, hc, q⟩ := h
  obtain ⟨p, r, h1, h2, h3, h4, rfl⟩ := eqD_ok hc
  exact op_eqD hu pins s σ H x y v u Q I rx ry ⟨p, r, hd.dp h1, he.dp h2, h3, h4, q⟩
theorem op_neX (hu : X.A.units + 64 < cLine) : OpR X (compareOp .NotEq) (rB X.K (cmpD .ne)) := by
  intro pins s σ H x y v u Q I rx ry h
  obtain ⟨d, e, b, hd, he, hn, q⟩ := h
  obtain ⟨c, hc, e2⟩ := Res.bind_ok hn
  cases e2
  obtain ⟨p, r, h1, h2, h3, h4, rfl⟩ := eqD_ok hc
  exact op_neD hu pins s σ H x y v u Q I rx ry ⟨p, r, hd.dp h1, he.dp h2, h3, h4, q⟩
end
end Vi

/-! Vi, part 4: the order of rows. -/
namespace Vi
open PySem PySem.Spec PyProof.Rows
open L2 PySem.SeqAt PySem.MeetsSeq PySem.MeetsSeq2 PySem.MeetsSeq3
variable [Wx]

/-- v < w, asked here, comes to b -/
def LtAt (A : Around) (s : Shared) (v w : Value) (b : Bool) : Prop :=
  ∀ (prog : Program) (wd : World) (E : Value → Shared → Prop) (Q : Value → Shared → Prop), Q (.bool b) s → wpAny (model prog wd) A (richCompare .Lt v w) Q E s
/-- two rows of values, the first below the second -/
inductive LtRow (A : Around) (s : Shared) : List Value → List Value → Bool → Prop where
  | nn : LtRow A s [] [] false
  | nc (w : Value) (ws : List Value) : LtRow A s [] (w :: ws) true
  | cn (v : Value) (vs : List Value) : LtRow A s (v :: vs) [] false
  | eq {v w : Value} {vs ws : List Value} {b : Bool} : EqAt A s v w true → LtRow A s vs ws b → LtRow A s (v :: vs) (w :: ws) b
  | ne {v w : Value} {vs ws : List Value} {b : Bool} : EqAt A s v w false → LtAt A s v w b → LtRow A s (v :: vs) (w :: ws) b

theorem tuple_lt_row (l m : Addr) (us ws : Array Value) (n n' : Nat) (dd dd' : Option Addr) (sl sl' : Array (Option Value)) :
    Meets (Builtin.«tuple.__lt__» ⟨[.ref l, .ref m], []⟩) (fun A R s => s.heap.get? l = some { cls := .type "tuple", dict := dd, data := .seq us n, slots := sl } ∧
      s.heap.get? m = some { cls := .type "tuple", dict := dd', data := .seq ws n', slots := sl' } ∧ ∃ b, LtRow A.in1 s us.toList ws.toList b ∧ R (.ok (.ret (.bool b))) s) :=
  .of_wp fun prog w A R s h => by
    obtain ⟨hp, g, d, tk, os⟩ := s
    obtain ⟨hl, hm, b, hr, hR⟩ := h
    have sub := AutoSeq1.sub_tuple_tuple
    wp_walk using AutoSeq1.wpAny_loadPart' hl, AutoSeq1.wpAny_loadPart' hm, wpAny_forIn_list _ (fun rest st s' => st.1 = none ∧ s' = ⟨hp, g, d, tk, os⟩ ∧ ∃ (vs xs : List Value), rest = vs.zip xs ∧
      vs.length + ws.size = xs.length + us.size ∧ LtRow A.in1 ⟨hp, g, d, tk, os⟩ vs xs b) _
    case turn =>
      rintro ⟨y, x⟩ rest st s' ⟨h1, rfl, vs, xs, hz, hlen, hq⟩
      cases hq with
      | nn => cases hz
      | nc => cases hz
      | cn => rw [List.zip_nil_right] at hz; cases hz
      | eq he hq =>
        rw [List.zip_cons_cons] at hz
        cases hz
        refine wpAny_bind (he prog w _ _ ?_)
        wp_walk
        exact ⟨rfl, rfl, _, _, rfl, by simp only [List.length_cons] at hlen; omega, hq⟩
      | ne he ht =>
        rw [List.zip_cons_cons] at hz
        cases hz
        refine wpAny_bind (he prog w _ _ ?_)
        have ht' := ht prog w
        wp_walk using ht'
        exact ⟨_, rfl, by simpa using hR⟩
    case fin =>
      rintro ⟨b1, b2⟩ s' ⟨h1, rfl, vs, xs, hz, hlen, hq⟩
      simp only at h1
      subst h1
      have hv : b = decide (us.size < ws.size) := by
        cases hq with
        | nn => simp only [List.length_nil] at hlen; exact (decide_eq_false (by omega)).symm
        | nc => simp only [List.length_nil, List.length_cons] at hlen; exact (decide_eq_true (by omega)).symm
        | cn => simp only [List.length_nil, List.length_cons] at hlen; exact (decide_eq_false (by omega)).symm
        | eq _ _ => cases hz
        | ne _ _ => cases hz
      subst hv
      wp_walk
      exact ⟨_, rfl, by simpa [Builtin.Tuple.tupleCompareSizes] using hR⟩
    case h => exact ⟨rfl, rfl, us.toList, ws.toList, rfl, by simp [Nat.add_comm], hr⟩

theorem ltAt_tup {A : Around} {s : Shared} {a c : Addr} {us ws : Array Value} {b : Bool} (h1 : IsTup s.heap a us) (h2 : IsTup s.heap c ws) (hu : A.units < cLine) (h : LtRow A.in1 s us.toList ws.toList b) : LtAt A s (.ref a) (.ref c) b := by
  intro prog wd E Q q
  obtain ⟨⟨k1, d1, t1, s1⟩, o1, c1, n1, e1⟩ := id h1
  obtain ⟨⟨k2, d2, t2, s2⟩, o2, c2, n2, e2⟩ := id h2
  simp only at c1 e1 c2 e2
  subst c1 e1 c2 e2
  exact richCompare_meets_room (op := .Lt) ⟨_, o1, rfl⟩ ⟨_, o2, rfl⟩ PySem.F.slot_tuple_lt PySem.F.entry_tuple_lt (PySem.F.args_tuple_lt_2 _ _)
    (tuple_lt_row a c us ws n1 n2 d1 d2 s1 s2) ⟨o1, o2, b, h, show Value.bool b ≠ Value.notImplemented ∧ Q (.bool b) s from ⟨fun z => (by cases z), q⟩⟩ hu
section
variable {X : Cx} {pins : List (Addr × Obj)} {σ : L2.St} {H : Hp} {s : Shared}
/-- == of two data, asked anywhere with room -/
theorem eqAtD (I : Inv X pins σ H s) {A : Around} {d e : D} {b : Bool} (h : eqD d e = .ok b) {x y : V} {v u : Value} (hx : Nw X.K H x d) (hy : Nw X.K H y e) (rx : RelV x v) (ry : RelV y u) (hu : A.units + 64 < cLine) : EqAt A s v u b := by
  obtain ⟨p, q, h1, h2, h3, h4, rfl⟩ := eqD_ok h
  obtain ⟨as, r1⟩ := Dp.reads I p x v (hx.dp h1) rx
  obtain ⟨bs, r2⟩ := Dp.reads I q y u (hy.dp h2) ry
  exact SeqAt.eqAt_reads p q A s v u as bs r1 r2 (SeqAt.canLay_of_shaped h3) (SeqAt.canLay_of_shaped h4) (SeqAt.room_of_shaped h3 hu)
theorem ltRowD (I : Inv X pins σ H s) {A : Around} (hu : A.units + 64 < cLine) {lt : D → D → Option Bool}
    (ih : ∀ (d e : D) (b : Bool) (x y : V) (v u : Value), lt d e = some b → Rep X.K H x d → Rep X.K H y e → RelV x v → RelV y u → LtAt A s v u b) :
    ∀ (ds es : List D) (b : Bool) (xs ys : List V) (vs us : List Value), ltDs lt ds es = some b → Reps X.K H xs ds → Reps X.K H ys es → Vals xs vs → Vals ys us → LtRow A s vs us b := by
  intro ds
  induction ds with
  | nil =>
    intro es b xs ys vs us h hx hy rx ry
    cases hx
    cases rx
    cases es with
    | nil => cases hy; cases ry; cases h; exact .nn
    | cons e es =>
      cases hy
      cases ry
      cases h
      exact .nc _ _
  | cons d ds ihl =>
    intro es b xs ys vs us h hx hy rx ry
    cases hx with
    | cons hx1 hx2 =>
      cases rx with
      | cons rx1 rx2 =>
        cases es with
        | nil => cases hy; cases ry; cases h; exact .cn _ _
        | cons e es =>
          cases hy with
          | cons hy1 hy2 =>
            cases ry with
            | cons ry1 ry2 =>
              unfold ltDs at h
              cases q : eqD d e with
              | ok k =>
                rw [q] at h
                have z := eqAtD I (A := A) q hx1.nw hy1.nw rx1 ry1 hu
                cases k with
                | true => exact .eq z (ihl es b _ _ _ _ h hx2 hy2 rx2 ry2)
                | false => exact .ne z (ih d e b _ _ _ _ h hx1 hy1 rx1 ry1)
              | exc c p => rw [q] at h; cases h
              | bad => rw [q] at h; cases h
theorem ltAt_int {A : Around} {s : Shared} {i j : Int} {v u : Value} (rx : RelV (.int i) v) (ry : RelV (.int j) u) : LtAt A s v u (decide (i < j)) := by
  obtain ⟨t, rfl⟩ := rx
  obtain ⟨t', rfl⟩ := ry
  exact fun prog wd E Q q => PyProof.Rows.lt_int q
theorem ltAt_str {A : Around} {s : Shared} {i j : Str} {v u : Value} (rx : RelV (.str i) v) (ry : RelV (.str j) u) : LtAt A s v u (decide (i.cps.toList < j.cps.toList)) := by
  obtain ⟨t, rfl⟩ := rx
  obtain ⟨t', rfl⟩ := ry
  exact fun prog wd E Q q => PyProof.Rows.lt_str q
theorem ltD_cases {n : Nat} {d e : D} {b : Bool} (h : ltD n d e = some b) : (∃ i j, d = .int i ∧ e = .int j ∧ b = decide (i < j)) ∨ (∃ i j, d = .str i ∧ e = .str j ∧ b = decide (i.cps.toList < j.cps.toList)) ∨
    ∃ m ds es, n = m + 1 ∧ d = .tup ds ∧ e = .tup es ∧ ltDs (ltD m) ds es = some b := by
  unfold ltD at h
  split at h
  · cases h; exact .inl ⟨_, _, rfl, rfl, rfl⟩
  · cases h; exact .inr (.inl ⟨_, _, rfl, rfl, rfl⟩)
  · exact .inr (.inr ⟨_, _, _, rfl, rfl, rfl, h⟩)
  · cases h
theorem ltAtD (I : Inv X pins σ H s) : ∀ (n : Nat) (A : Around), A.units + n + 64 < cLine → ∀ (d e : D) (b : Bool) (x y : V) (v u : Value), ltD n d e = some b → Rep X.K H x d → Rep X.K H y e → RelV x v → RelV y u → LtAt A s v u b := by
  intro n
  induction n with
  | zero =>
    intro A hu d e b x y v u h hx hy rx ry
    rcases ltD_cases h with ⟨i, j, rfl, rfl, rfl⟩ | ⟨i, j, rfl, rfl, rfl⟩ | ⟨m, ds, es, e1, _⟩
    · cases hx; cases hy; exact ltAt_int rx ry
    · cases hx; cases hy; exact ltAt_str rx ry
    · cases e1
  | succ n ih =>
    intro A hu d e b x y v u h hx hy rx ry
    rcases ltD_cases h with ⟨i, j, rfl, rfl, rfl⟩ | ⟨i, j, rfl, rfl, rfl⟩ | ⟨m, ds, es, e1, rfl, rfl, h⟩
    · cases hx; cases hy; exact ltAt_int rx ry
    · cases hx; cases hy; exact ltAt_str rx ry
    · cases e1
      cases hx with
      | tup h1 r1 =>
        cases hy with
        | tup h2 r2 =>
          cases rx; cases ry
          obtain ⟨us, v1, t1, _⟩ := I.tuple h1
          obtain ⟨ws, v2, t2, _⟩ := I.tuple h2
          refine ltAt_tup t1 t2 (by omega) ?_
          exact ltRowD I (A := A.in1) (by show A.units + 1 + 64 < cLine; omega) (fun d e b x y v u => ih A.in1 (by show A.units + 1 + n + 64 < cLine; omega) d e b x y v u) _ _ b _ _ _ _ h r1 r2 v1 v2
theorem rep_of_lt {K : PySem.W.Frag} {H : Hp} {n : Nat} {d e : D} {b : Bool} {x y : V} (h : ltD n d e = some b) (hx : Nw K H x d) (hy : Nw K H y e) : Rep K H x d ∧ Rep K H y e := by
  rcases ltD_cases h with ⟨i, j, rfl, rfl, rfl⟩ | ⟨i, j, rfl, rfl, rfl⟩ | ⟨m, ds, es, e1, rfl, rfl, h⟩
  · exact ⟨hx, hy⟩
  · exact ⟨hx, hy⟩
  · exact ⟨hx, hy⟩
theorem op_ltX (hu : X.A.units + 80 < cLine) : OpR X (compareOp .Lt) (rB X.K (cmpD .lt)) := by
  intro pins s σ H x y v u Q I rx ry h
  obtain ⟨d, e, b, hd, he, hc, q⟩ := h
  have hc : ltD 6 d e = some b := by
    have hc : ofO (ltT d e) = .ok b := hc
    unfold ltT at hc
    cases z : ltD 6 d e with
    | none => rw [z] at hc; cases hc
    | some k => rw [z] at hc; cases hc; rfl
  obtain ⟨r1, r2⟩ := rep_of_lt hc hd he
  exact ltAtD I 6 X.A (by omega) d e b x y v u hc r1 r2 rx ry X.prog X.w _ _ ⟨.bl b, H, I, rfl, q⟩
end
end Vi

/-! Vi, part 5: readings of expressions by what they come to. -/
namespace Vi
open PySem PySem.Spec PyProof.Rows
open L2
variable [Wx]

theorem peImp {X : Cx} {e : Expr} {t t' : TE} (h : PE X e t) (i : ∀ σ H Q, t' σ H Q → t σ H Q) : PE X e t' := ⟨fun pins s σ H Q I q => h.run pins s σ H Q I (i σ H Q q)⟩
theorem ptImp {X : Cx} {e : Expr} {t t' : TT} (h : PT X e t) (i : ∀ σ H Q, t' σ H Q → t σ H Q) : PT X e t' := ⟨fun pins s σ H Q I q => h.run pins s σ H Q I (i σ H Q q)⟩
theorem pwImp {X : Cx} {e : Expr} {t t' : TT} (h : PW X e t) (i : ∀ σ H Q, t' σ H Q → t σ H Q) : PW X e t' := ⟨fun wh pins s σ H Q I q => h.run wh pins s σ H Q I (i σ H Q q)⟩
theorem paImp {X : Cx} {e : List Expr} {t t' : TA} (h : PA X e t) (i : ∀ σ H Q, t' σ H Q → t σ H Q) : PA X e t' := ⟨fun pos pins s σ H Q I q => h.run pos pins s σ H Q I (i σ H Q q)⟩
theorem psImp {X : Cx} {e : Stmt} {t t' : TS} (h : PS X e t) (i : ∀ D σ H, t' D σ H → t D σ H) : PS X e t' := ⟨fun pins s σ H D I q => h.run pins s σ H D I (i D σ H q)⟩
theorem pssImp {X : Cx} {e : List Stmt} {t t' : TS} (h : PSs X e t) (i : ∀ D σ H, t' D σ H → t D σ H) : PSs X e t' := ⟨fun pins s σ H D I q => h.run pins s σ H D I (i D σ H q)⟩

def isB : Ex → Bool
  | .bvar _ => true
  | _ => false
/-- the value of x: a name's own, or the datum, frozen -/
def Val (K : PySem.W.Frag) (σ : L2.St) (H : Hp) (v : V) (d : D) : Ex → Prop
  | .bvar i => σ[i]? = some (some v)
  | _ => Rep K H v d
theorem val_rep {K : PySem.W.Frag} {σ : L2.St} {H : Hp} {v : V} {d : D} {x : Ex} (hx : isB x = false) (h : Val K σ H v d x) : Rep K H v d := by
  cases x <;> first | exact h | cases hx
theorem rep_val {K : PySem.W.Frag} {σ : L2.St} {H : Hp} {v : V} {d : D} {x : Ex} (hx : isB x = false) (h : Rep K H v d) : Val K σ H v d x := by
  cases x <;> first | exact h | cases hx
inductive Vls (K : PySem.W.Frag) (σ : L2.St) (H : Hp) : List V → List D → Exs → Prop where
  | nil : Vls K σ H [] [] .nil
  | cons {v : V} {vs : List V} {d : D} {ds : List D} {x : Ex} {xs : Exs} : Val K σ H v d x → Vls K σ H vs ds xs → Vls K σ H (v :: vs) (d :: ds) (.cons x xs)
theorem Val.mono {K : PySem.W.Frag} {σ : L2.St} {H H' : Hp} {v : V} {d : D} {x : Ex} (h : Val K σ H v d x) (f : FzS H H') : Val K σ H' v d x := by
  cases x <;> first | exact Rep.mono f h | exact h

section
variable (K : PySem.W.Frag) (P : Tb) (G : List D)
def tE (x : Ex) : TE := fun σ H Q => ∃ en φ, EnvOk K H σ en φ ∧ ∃ d en', ev P G x en = .ok (d, en') ∧ ∀ v H', EnvOk K H' σ en' φ → Evo H (Own φ) H' → Val K σ H' v d x → Q v H'
/-- .. where a new list is one's own -/
def tO (x : Ex) : TE := fun σ H Q => ∃ en φ, EnvOk K H σ en φ ∧ ∃ d en', ev P G x en = .ok (d, en') ∧ ∀ v H', EnvOk K H' σ en' φ → Evo H (Own φ) H' → ValO K H H' v d → Q v H'
def tT (x : Ex) : TT := fun σ H Q => ∃ en φ, EnvOk K H σ en φ ∧ ∃ b en', ev P G x en = .ok (.bl b, en') ∧ ∀ H', EnvOk K H' σ en' φ → Evo H (Own φ) H' → Q b H'
def tA (xs : Exs) : TA := fun σ H Q => ∃ en φ, EnvOk K H σ en φ ∧ ∃ ds en', evs P G xs en = .ok (ds, en') ∧ ∀ vs H', EnvOk K H' σ en' φ → Evo H (Own φ) H' → Vls K σ H' vs ds xs → Q vs H'
end
/-- the freezing of a new list -/
theorem ep_fz {X : Cx} {pins : List (Addr × Obj)} {σ : L2.St} {H : Hp} {Q : VK} {u : Value} {s' : Shared} {c : D} (h : EP X pins σ (fun v H1 => ValO X.K H H1 v c ∧ Same H H1) u s')
    (q : ∀ v H', Rep X.K H' v c → Same H H' → Q v H') : EP X pins σ Q u s' := by
  obtain ⟨v, H1, I, r, hv, sm⟩ := h
  cases c with
  | lst ds =>
    obtain ⟨a, xs, rfl, hn, h1, rep⟩ := hv
    obtain ⟨o, I2⟩ := inv_frz I h1 trivial
    refine ⟨_, _, I2, r, q _ _ (.lst (.inl ⟨o, upd_same⟩) (rep.mono (fzS_frz h1 trivial))) fun b w e => ?_⟩
    exact (upd_ne (fun z => by
      have q := sm b w e
      rw [z, h1] at q
      cases q
      exact hn (.lst xs) (fun _ z => nomatch z) (z ▸ e))).trans (sm b w e)
  | dic ks vs =>
    obtain ⟨a, xs, rfl, hn, h1, hk, rep⟩ := hv
    obtain ⟨o, I2⟩ := inv_frz I h1 trivial
    refine ⟨_, _, I2, r, q _ _ (.dic upd_same hk (rep.mono (fzS_frz h1 trivial))) fun b w e => ?_⟩
    exact (upd_ne (fun z => by
      have q := sm b w e
      rw [z, h1] at q
      cases q
      exact hn (.dK xs) (fun _ z => nomatch z) (z ▸ e))).trans (sm b w e)
  | _ => exact ⟨v, H1, I, r, q v H1 hv sm⟩
def rF (K : PySem.W.Frag) (f : D → D → Res D) : R2 := fun x y H Q => ∃ d e c, Nw K H x d ∧ Nw K H y e ∧ f d e = .ok c ∧ ∀ v H', Rep K H' v c → Same H H' → Q v H'
theorem opFz {X : Cx} {f : Value → Value → Sem Value} {g : D → D → Res D} (h : OpR X f (rO X.K g)) : OpR X f (rF X.K g) := by
  intro pins s σ H x y v u Q I rx ry q
  obtain ⟨d, e, c, hd, he, hc, q⟩ := q
  exact thn (h pins s σ H x y v u (fun v H1 => ValO X.K H H1 v c ∧ Same H H1) I rx ry ⟨d, e, c, hd, he, hc, fun _ _ a b => ⟨a, b⟩⟩) fun _ _ z => ep_fz z q
theorem evo_frz {H H' : Hp} {φ : Fp} {K : PySem.W.Frag} {σ : L2.St} {en : En} {a : Addr} {o : Obj} {u : HO} (h : Evo H (Own φ) H') (hn : Fr H a) (h1 : H' a = some u) (hu : isOw u) : Evo H (Own φ) (frzAt H' a o u) :=
  ⟨fun b w n k e => (upd_ne (fun z => hn w k (by rw [← z]; exact e))).trans (h.keep b w n k e), h.fz.trans (fzS_frz h1 hu), fun t => tabs_upd (h.tb t) h1 (ow_ntb hu)⟩
theorem env_frz {K : PySem.W.Frag} {H : Hp} {σ : L2.St} {en : En} {φ : Fp} {a : Addr} {o : Obj} {u : HO} (h : EnvOk K H σ en φ) (h1 : H a = some u) (hu : isOw u) (no : ¬ Own φ a) : EnvOk K (frzAt H a o u) σ en φ :=
  ⟨h.len, fun i => by
    have q := h.slot i
    cases e : getS en i with
    | no => rw [e] at q; exact q
    | fz d =>
      rw [e] at q
      obtain ⟨⟨v, e1, r⟩, e2⟩ := q
      exact ⟨⟨v, e1, r.mono (fzS_frz h1 hu)⟩, e2⟩
    | ow ds =>
      rw [e] at q
      obtain ⟨b, ys, e1, e2, r, e3⟩ := q
      exact ⟨b, ys, e1, (upd_ne (fun z => no ⟨i, by rw [e3, z]; exact List.mem_singleton.mpr rfl⟩)).trans e2, r.mono (fzS_frz h1 hu), e3⟩
    | om rows =>
      rw [e] at q
      obtain ⟨b, bs, e1, e2, r, e3, e4⟩ := q
      exact ⟨b, bs, e1, (upd_ne (fun z => no ⟨i, by rw [e3, z]; exact List.mem_cons_self⟩)).trans e2, r.mono (fzS_frz h1 hu) fun c hc w _ z => (upd_ne (fun z => no ⟨i, by rw [e3, ← z]; exact List.mem_cons_of_mem _ hc⟩)).trans z, e3, e4⟩
    | slf c =>
      rw [e] at q
      obtain ⟨p, C, dx, ns, e1, e2, e3, e4⟩ := q
      exact ⟨p, C, dx, ns, e1, e2, (upd_ne (fun z => no ⟨i, by rw [e4, z]; exact List.mem_singleton.mpr rfl⟩)).trans e3, e4⟩
    | od ks vs =>
      rw [e] at q
      obtain ⟨b, ys, e1, e2, k, r, e3⟩ := q
      exact ⟨b, ys, e1, (upd_ne (fun z => no ⟨i, by rw [e3, z]; exact List.mem_singleton.mpr rfl⟩)).trans e2, k, r.mono (fzS_frz h1 hu), e3⟩, h.dis, tabs_upd h.tb h1 (ow_ntb hu)⟩
section
variable {X : Cx} {P : Tb} {G : List D}
theorem pe_ofO {x : Ex} {e : Expr} (hx : isB x = false) (h : PE X e (tO X.K P G x)) : PE X e (tE X.K P G x) := by
  refine ⟨fun pins s σ H Q I q => ?_⟩
  obtain ⟨en, φ, ok, d, en', he, q⟩ := q
  refine thn (h.run pins s σ H (fun v H' => EnvOk X.K H' σ en' φ ∧ Evo H (Own φ) H' ∧ ValO X.K H H' v d) I ⟨en, φ, ok, d, en', he, fun v H' a b c => ⟨a, b, c⟩⟩) fun u s' z => ?_
  obtain ⟨v, H1, I1, r1, ok1, ev1, v1⟩ := z
  cases d with
  | lst ds =>
    obtain ⟨a, xs, rfl, hn, h1, rep⟩ := v1
    obtain ⟨o, I2⟩ := inv_frz I1 h1 trivial
    have no : ¬ Own φ a := fun z => by
      obtain ⟨ys, w, hw⟩ := ok.own z
      exact hn _ (ow_nT hw) w
    exact ⟨_, _, I2, r1, q _ _ (env_frz ok1 h1 trivial no) (evo_frz (K := X.K) (σ := σ) (en := en) ev1 hn h1 trivial) (rep_val hx (.lst (.inl ⟨o, upd_same⟩) (rep.mono (fzS_frz h1 trivial))))⟩
  | dic ks vs =>
    obtain ⟨a, xs, rfl, hn, h1, hk, rep⟩ := v1
    obtain ⟨o, I2⟩ := inv_frz I1 h1 trivial
    have no : ¬ Own φ a := fun z => by
      obtain ⟨ys, w, hw⟩ := ok.own z
      exact hn _ (ow_nT hw) w
    exact ⟨_, _, I2, r1, q _ _ (env_frz ok1 h1 trivial no) (evo_frz (K := X.K) (σ := σ) (en := en) ev1 hn h1 trivial) (rep_val hx (.dic upd_same hk (rep.mono (fzS_frz h1 trivial))))⟩
  | _ => exact ⟨v, H1, I1, r1, q v H1 ok1 ev1 (rep_val hx v1)⟩
/-- a name that holds a list of one's own, now -/
theorem nw_own {K : PySem.W.Frag} {H : Hp} {σ : L2.St} {en : En} {φ : Fp} {i : Nat} {v : V} {ds : List D} (ok : EnvOk K H σ en φ) (h : σ[i]? = some (some v)) (e : getS en i = .ow ds) : Nw K H v (.lst ds) := by
  obtain ⟨a, xs, e1, e2, r, _⟩ := ok.ow e
  rw [h] at e1
  cases e1
  exact ⟨a, xs, rfl, .inl e2, r⟩
theorem nw_own2 {K : PySem.W.Frag} {H : Hp} {σ : L2.St} {en : En} {φ : Fp} {i : Nat} {v : V} {ks vs : List D} (ok : EnvOk K H σ en φ) (h : σ[i]? = some (some v)) (e : getS en i = .od ks vs) : Nw K H v (.dic ks vs) := by
  obtain ⟨a, xs, e1, e2, k, r, _⟩ := ok.od e
  rw [h] at e1
  cases e1
  exact ⟨a, xs, rfl, .inl e2, k, r⟩
/-- .. of an expression whose value stands as it came -/
theorem val_nw {K : PySem.W.Frag} {H : Hp} {σ : L2.St} {en : En} {φ : Fp} {x : Ex} {v : V} {d : D} {en0 : En} (ok : EnvOk K H σ en φ) (h : Val K σ H v d x) (he : ev P G x en0 = .ok (d, en)) : Nw K H v d := by
  cases x with
  | bvar i =>
    unfold ev at he
    split at he
    · rename_i xs e
      cases he
      exact nw_own ok h e
    · rename_i ks vs e
      cases he
      exact nw_own2 ok h e
    · cases he
  | _ => exact Rep.nw h
end
end Vi

/-! Vi, part 6: each form of an expression. -/
namespace Vi
open PySem PySem.Spec PyProof.Rows
open L2

/-! ### what a quiet expression leaves as it was -/
mutual
def quiet : Ex → Bool
  | .tup es => quietA es
  | .lst es => quietA es
  | .bin _ a b => quiet a && quiet b
  | .neg a => quiet a
  | .not a => quiet a
  | .cmp _ a b => quiet a && quiet b
  | .chain _ _ a b c => quiet a && quiet b && quiet c
  | .and a b => quiet a && quiet b
  | .or a b => quiet a && quiet b
  | .ite c a b => quiet c && quiet a && quiet b
  | .call _ es => quietA es && noB es
  | .blt _ es => quietA es
  | .isi a _ => quiet a
  | .sub a i => quiet a && quiet i
  | .dsub a i => quiet a && quiet i
  | .mdef _ a d => quiet a && quiet d
  | .sset a => quiet a
  | .trev a => quiet a
  | .slice a lo hi => quiet a && quiet lo && quiet hi
  | .lc own pt _ src cnd elt => quietA src && quietA cnd && quiet elt && ptIn own pt
  | .lc2 _ _ _ _ _ _ _ _ _ _ _ => false
  | .lcm _ _ _ _ _ _ => false
  | .pop _ _ => false
  | .kmax _ _ _ _ => false
  | .fld _ _ a => quiet a
  | .isc _ a => quiet a
  | .make _ _ es => quietA es
  | .meth _ _ es => quietA es
  | .om2 _ a b => quiet a && quiet b
  | .prim _ es => quietA es
  | .asked _ _ _ _ _ _ => true
  | _ => true
def quietA : Exs → Bool
  | .nil => true
  | .cons e es => quiet e && quietA es
def noB : Exs → Bool
  | .nil => true
  | .cons e es => !isB e && noB es
def ptIn (own : List Nat) : Pat → Bool
  | .v i => own.contains i
  | .t is => is.all fun i => own.contains i
end
theorem getS_set (en : En) (i j : Nat) (s : Slot) : getS (en.set i s) j = if i = j ∧ i < en.length then s else getS en j := by
  unfold getS
  rw [List.getD_eq_getElem?_getD, List.getD_eq_getElem?_getD, List.getElem?_set]
  by_cases h : i = j
  · subst h
    by_cases h2 : i < en.length
    · simp [h2]
    · simp [h2]
  · simp [h]
theorem wipeE_len (en : En) : ∀ own : List Nat, (wipeE own en).length = en.length
  | [] => rfl
  | v :: vs => by unfold wipeE; rw [List.length_set, wipeE_len en vs]
theorem backE_len (old en : En) : ∀ own : List Nat, (backE old own en).length = en.length
  | [] => rfl
  | v :: vs => by unfold backE; rw [List.length_set, backE_len old en vs]
theorem wipeE_get (en : En) (j : Nat) : ∀ own : List Nat, getS (wipeE own en) j = if j ∈ own then .no else getS en j
  | [] => by simp [wipeE]
  | v :: vs => by
    unfold wipeE
    rw [getS_set, wipeE_get en j vs, wipeE_len]
    by_cases h : v = j
    · subst h
      by_cases h2 : v < en.length
      · simp [h2]
      · have : getS en v = .no := by unfold getS; rw [List.getD_eq_getElem?_getD, List.getElem?_eq_none (by omega)]; rfl
        simp [h2, this]
    · have h' : ¬ j = v := fun z => h z.symm
      simp [h, h']
theorem backE_get (old en : En) (hl : en.length = old.length) (j : Nat) : ∀ own : List Nat, getS (backE old own en) j = if j ∈ own then getS old j else getS en j
  | [] => by simp [backE]
  | v :: vs => by
    unfold backE
    rw [getS_set, backE_get old en hl j vs, backE_len]
    by_cases h : v = j
    · subst h
      by_cases h2 : v < en.length
      · simp [h2]
      · have e1 : getS en v = .no := by unfold getS; rw [List.getD_eq_getElem?_getD, List.getElem?_eq_none (by omega)]; rfl
        have e2 : getS old v = .no := by unfold getS; rw [List.getD_eq_getElem?_getD, List.getElem?_eq_none (by omega)]; rfl
        simp [h2, e1, e2]
    · have h' : ¬ j = v := fun z => h z.symm
      simp [h, h']
theorem en_ext {a b : En} (hl : a.length = b.length) (h : ∀ j, getS a j = getS b j) : a = b := by
  refine List.ext_getElem hl fun i h1 h2 => ?_
  have q := h i
  unfold getS at q
  rw [List.getD_eq_getElem?_getD, List.getD_eq_getElem?_getD, List.getElem?_eq_getElem h1, List.getElem?_eq_getElem h2] at q
  exact q
theorem setAll_len (ps : List (Nat × D)) : ∀ en : En, (ps.foldl (fun en p => en.set p.1 (.fz p.2)) en).length = en.length := by
  induction ps with
  | nil => intro en; rfl
  | cons p ps ih => intro en; rw [List.foldl_cons, ih, List.length_set]
theorem setAll_out (ps : List (Nat × D)) (j : Nat) (hj : ∀ p ∈ ps, p.1 ≠ j) : ∀ en : En, getS (ps.foldl (fun en p => en.set p.1 (.fz p.2)) en) j = getS en j := by
  induction ps with
  | nil => intro en; rfl
  | cons p ps ih =>
    intro en
    rw [List.foldl_cons, ih (fun q hq => hj q (List.mem_cons_of_mem _ hq)), getS_set, if_neg (fun z => hj p List.mem_cons_self z.1)]
theorem bindP_t {is : List Nat} {d : D} {en en' : En} (h : bindP (.t is) d en = .ok en') : ∃ ds, d = .tup ds ∧ is.length = ds.length ∧ en' = (is.zip ds).foldl (fun en p => en.set p.1 (.fz p.2)) en := by
  cases d with
  | tup ds =>
    simp only [bindP] at h
    split at h
    · rename_i z
      injection h with h
      exact ⟨ds, rfl, z, h.symm⟩
    · cases h
  | _ => cases h
theorem bindP_len {pt : Pat} {d : D} {en en' : En} (h : bindP pt d en = .ok en') : en'.length = en.length := by
  cases pt with
  | v i => cases h; exact List.length_set
  | t is =>
    obtain ⟨ds, _, _, e⟩ := bindP_t h
    rw [e]
    exact setAll_len _ _
theorem bindP_out {pt : Pat} {d : D} {en en' : En} {own : List Nat} {j : Nat} (h : bindP pt d en = .ok en') (hp : ptIn own pt = true) (hj : j ∉ own) : getS en' j = getS en j := by
  cases pt with
  | v i =>
    cases h
    rw [getS_set, if_neg]
    rintro ⟨rfl, _⟩
    exact hj (by simpa [ptIn] using hp)
  | t is =>
    have hi : ∀ i ∈ is, i ∈ own := by simpa [ptIn] using hp
    obtain ⟨ds, _, _, e⟩ := bindP_t h
    rw [e]
    refine setAll_out _ j (fun p hp z => hj ?_) en
    rw [← z]
    exact hi _ (List.of_mem_zip hp).1
theorem wipe_bind {pt : Pat} {d : D} {en en' : En} {own : List Nat} (h : bindP pt d (wipeE own en) = .ok en') (hp : ptIn own pt = true) : wipeE own en' = wipeE own en := by
  refine en_ext (by rw [wipeE_len, wipeE_len, bindP_len h, wipeE_len]) fun j => ?_
  rw [wipeE_get, wipeE_get]
  by_cases hj : j ∈ own
  · rw [if_pos hj, if_pos hj]
  · rw [if_neg hj, if_neg hj, bindP_out h hp hj, wipeE_get, if_neg hj]
theorem back_wipe (own : List Nat) (en : En) : backE en own (wipeE own en) = en := by
  refine en_ext (by rw [backE_len, wipeE_len]) fun j => ?_
  rw [backE_get _ _ (wipeE_len _ _)]
  by_cases hj : j ∈ own
  · rw [if_pos hj]
  · rw [if_neg hj, wipeE_get, if_neg hj]
theorem lcGo_same {step : D → En → Res (Option D × En)} {en0 : En} (hs : ∀ d y en', step d en0 = .ok (y, en') → en' = en0) : ∀ (ds ys : List D) (en' : En), lcGo step ds en0 = .ok (ys, en') → en' = en0
  | [], ys, en', h => by cases h; rfl
  | d :: ds, ys, en', h => by
    unfold lcGo at h
    obtain ⟨⟨y, e1⟩, h1, h3⟩ := Res.bind_ok h
    obtain ⟨⟨q, e2⟩, h2, h4⟩ := Res.bind_ok h3
    have z : e1 = en0 := hs d y e1 h1
    injection h4 with h4
    injection h4 with _ h5
    rw [← h5]
    exact lcGo_same hs ds q e2 (by rw [← z]; rw [z] at h2 ⊢; exact h2)
theorem lentAt_noB : ∀ {es : Exs}, noB es = true → ∀ o ∈ lentAt es, o = none
  | .nil, _, o, h => nomatch h
  | .cons e es, hb, o, h => by
    unfold noB at hb
    rw [Bool.and_eq_true] at hb
    cases e <;> first
      | (cases hb.1; done)
      | (unfold lentAt at h; rcases List.mem_cons.mp h with h | h; exact h; exact lentAt_noB hb.2 o h)
theorem putBack_none : ∀ {ls : List (Option Nat)} {os : List (List D)} {en : En}, (∀ o ∈ ls, o = none) → putBack ls os en = en
  | [], os, en, _ => by unfold putBack; rfl
  | none :: ls, os, en, h => by
    unfold putBack
    exact putBack_none fun o ho => h o (List.mem_cons_of_mem _ ho)
  | some i :: ls, os, en, h => nomatch h (some i) List.mem_cons_self
section
variable {P : Tb} {G : List D}
mutual
theorem evQuiet : ∀ (x : Ex) (en en' : En) (d : D), quiet x = true → ev P G x en = .ok (d, en') → en' = en
  | .var i, en, en', d, _, h => by
    unfold ev at h; split at h <;> cases h; rfl
  | .bvar i, en, en', d, _, h => by
    unfold ev at h
    split at h
    · cases h; rfl
    · cases h; rfl
    · cases h
  | .dnew, en, en', d, _, h => by cases h; rfl
  | .asked _ _ _ _ _ _, en, en', d, hq, h => by
    unfold ev at h
    obtain ⟨⟨r, e1⟩, h1, h⟩ := Res.bind_ok h
    obtain ⟨q, h2, h⟩ := Res.bind_ok h
    cases h; rfl
  | .lk i a, en, en', d, hq, h => by
    unfold ev at h
    split at h
    · obtain ⟨⟨r, e1⟩, h1, h⟩ := Res.bind_ok h
      dsimp only at h
      split at h
      · obtain ⟨ns, h2, h⟩ := Res.bind_ok h
        cases h; rfl
      · cases h
    · cases h
  | .trev a, en, en', d, hq, h => by
    unfold ev at h
    obtain ⟨⟨r, e1⟩, h1, h⟩ := Res.bind_ok h
    dsimp only at h
    split at h
    · cases h
      exact evQuiet a _ _ _ (by simpa [quiet] using hq) h1
    · cases h
  | .sset a, en, en', d, hq, h => by
    unfold ev at h
    obtain ⟨⟨r, e1⟩, h1, h⟩ := Res.bind_ok h
    dsimp only at h
    split at h
    · obtain ⟨ns, h3, h⟩ := Res.bind_ok h
      split at h
      · cases h
        exact evQuiet a _ _ _ (by simpa [quiet] using hq) h1
      · cases h
    · cases h
  | .dsub a b, en, en', d, hq, h => by
    unfold ev at h
    unfold quiet at hq
    rw [Bool.and_eq_true] at hq
    obtain ⟨⟨r, e1⟩, h1, h⟩ := Res.bind_ok h
    obtain ⟨⟨q, e2⟩, h2, h⟩ := Res.bind_ok h
    dsimp only at h
    split at h
    · split at h
      · obtain ⟨c, h3, h⟩ := Res.bind_ok h
        cases h
        exact (evQuiet b _ _ _ hq.2 h2).trans (evQuiet a _ _ _ hq.1 h1)
      · cases h
    · cases h
  | .fld c k a, en, en', d, hq, h => by
    unfold ev at h
    obtain ⟨⟨r, e1⟩, h1, h⟩ := Res.bind_ok h
    obtain ⟨q, h3, h⟩ := Res.bind_ok h
    cases h
    exact evQuiet a _ _ _ (by simpa [quiet] using hq) h1
  | .isc c a, en, en', d, hq, h => by
    unfold ev at h
    obtain ⟨⟨r, e1⟩, h1, h⟩ := Res.bind_ok h
    obtain ⟨q, h3, h⟩ := Res.bind_ok h
    cases h
    exact evQuiet a _ _ _ (by simpa [quiet] using hq) h1
  | .make c f es, en, en', d, hq, h => by
    unfold ev at h
    obtain ⟨⟨r, e1⟩, h1, h⟩ := Res.bind_ok h
    obtain ⟨q, h3, h⟩ := Res.bind_ok h
    cases h
    exact evQuietA es _ _ _ (by simpa [quiet] using hq) h1
  | .meth c f es, en, en', d, hq, h => by
    unfold ev at h
    obtain ⟨⟨r, e1⟩, h1, h⟩ := Res.bind_ok h
    split at h
    · obtain ⟨q, h3, h⟩ := Res.bind_ok h
      cases h
      exact evQuietA es _ _ _ (by simpa [quiet] using hq) h1
    · cases h
  | .om2 i a b, en, en', d, hq, h => by
    unfold ev at h
    unfold quiet at hq
    rw [Bool.and_eq_true] at hq
    obtain ⟨⟨r, e1⟩, h1, h⟩ := Res.bind_ok h
    obtain ⟨⟨q, e2⟩, h2, h⟩ := Res.bind_ok h
    split at h
    · obtain ⟨row, h3, h⟩ := Res.bind_ok h
      obtain ⟨z, h4, h⟩ := Res.bind_ok h
      cases h
      exact (evQuiet b _ _ _ hq.2 h2).trans (evQuiet a _ _ _ hq.1 h1)
    · cases h
  | .prim p es, en, en', d, hq, h => by
    unfold ev at h
    obtain ⟨⟨r, e1⟩, h1, h⟩ := Res.bind_ok h
    obtain ⟨q, h3, h⟩ := Res.bind_ok h
    cases h
    exact evQuietA es _ _ _ (by simpa [quiet] using hq) h1
  | .pop _ _, en, en', d, hq, h => by simp [quiet] at hq
  | .lcm _ _ _ _ _ _, en, en', d, hq, h => by simp [quiet] at hq
  | .int i, en, en', d, _, h => by cases h; rfl
  | .str x, en, en', d, _, h => by cases h; rfl
  | .non, en, en', d, _, h => by cases h; rfl
  | .bl b, en, en', d, _, h => by cases h; rfl
  | .nop, en, en', d, _, h => by cases h; rfl
  | .gc g, en, en', d, _, h => by
    unfold ev at h; split at h <;> cases h; rfl
  | .tup es, en, en', d, hq, h => by
    unfold ev at h
    obtain ⟨⟨r, e1⟩, h1, h⟩ := Res.bind_ok h
    cases h
    exact evQuietA es _ _ _ (by simpa [quiet] using hq) h1
  | .lst es, en, en', d, hq, h => by
    unfold ev at h
    obtain ⟨⟨r, e1⟩, h1, h⟩ := Res.bind_ok h
    cases h
    exact evQuietA es _ _ _ (by simpa [quiet] using hq) h1
  | .bin op a b, en, en', d, hq, h => by
    unfold ev at h
    unfold quiet at hq
    rw [Bool.and_eq_true] at hq
    obtain ⟨⟨r, e1⟩, h1, h⟩ := Res.bind_ok h
    obtain ⟨⟨q, e2⟩, h2, h⟩ := Res.bind_ok h
    obtain ⟨c, h3, h⟩ := Res.bind_ok h
    cases h
    exact (evQuiet b _ _ _ hq.2 h2).trans (evQuiet a _ _ _ hq.1 h1)
  | .neg a, en, en', d, hq, h => by
    unfold ev at h
    obtain ⟨⟨r, e1⟩, h1, h⟩ := Res.bind_ok h
    obtain ⟨c, h3, h⟩ := Res.bind_ok h
    cases h
    exact evQuiet a _ _ _ (by simpa [quiet] using hq) h1
  | .not a, en, en', d, hq, h => by
    unfold ev at h
    obtain ⟨⟨r, e1⟩, h1, h⟩ := Res.bind_ok h
    obtain ⟨c, h3, h⟩ := Res.bind_ok h
    cases h
    exact evQuiet a _ _ _ (by simpa [quiet] using hq) h1
  | .cmp op a b, en, en', d, hq, h => by
    unfold ev at h
    unfold quiet at hq
    rw [Bool.and_eq_true] at hq
    obtain ⟨⟨r, e1⟩, h1, h⟩ := Res.bind_ok h
    obtain ⟨⟨q, e2⟩, h2, h⟩ := Res.bind_ok h
    obtain ⟨c, h3, h⟩ := Res.bind_ok h
    cases h
    exact (evQuiet b _ _ _ hq.2 h2).trans (evQuiet a _ _ _ hq.1 h1)
  | .chain op op' a b c, en, en', d, hq, h => by
    unfold ev at h
    unfold quiet at hq
    rw [Bool.and_eq_true, Bool.and_eq_true] at hq
    obtain ⟨⟨r, e1⟩, h1, h⟩ := Res.bind_ok h
    obtain ⟨⟨q, e2⟩, h2, h⟩ := Res.bind_ok h
    obtain ⟨k, h3, h⟩ := Res.bind_ok h
    have z := (evQuiet b _ _ _ hq.1.2 h2).trans (evQuiet a _ _ _ hq.1.1 h1)
    split at h
    · obtain ⟨⟨u, e3⟩, h4, h⟩ := Res.bind_ok h
      obtain ⟨m, h5, h⟩ := Res.bind_ok h
      cases h
      exact (evQuiet c _ _ _ hq.2 h4).trans z
    · cases h
      exact z
  | .and a b, en, en', d, hq, h => by
    unfold ev at h
    unfold quiet at hq
    rw [Bool.and_eq_true] at hq
    obtain ⟨⟨r, e1⟩, h1, h⟩ := Res.bind_ok h
    obtain ⟨k, h3, h⟩ := Res.bind_ok h
    have z := evQuiet a _ _ _ hq.1 h1
    split at h
    · exact (evQuiet b _ _ _ hq.2 h).trans z
    · cases h; exact z
  | .or a b, en, en', d, hq, h => by
    unfold ev at h
    unfold quiet at hq
    rw [Bool.and_eq_true] at hq
    obtain ⟨⟨r, e1⟩, h1, h⟩ := Res.bind_ok h
    obtain ⟨k, h3, h⟩ := Res.bind_ok h
    have z := evQuiet a _ _ _ hq.1 h1
    split at h
    · cases h; exact z
    · exact (evQuiet b _ _ _ hq.2 h).trans z
  | .ite c a b, en, en', d, hq, h => by
    unfold ev at h
    unfold quiet at hq
    rw [Bool.and_eq_true, Bool.and_eq_true] at hq
    obtain ⟨⟨r, e1⟩, h1, h⟩ := Res.bind_ok h
    obtain ⟨k, h3, h⟩ := Res.bind_ok h
    have z := evQuiet c _ _ _ hq.1.1 h1
    split at h
    · exact (evQuiet a _ _ _ hq.1.2 h).trans z
    · exact (evQuiet b _ _ _ hq.2 h).trans z
  | .call f es, en, en', d, hq, h => by
    unfold ev at h
    unfold quiet at hq
    rw [Bool.and_eq_true] at hq
    obtain ⟨⟨r, e1⟩, h1, h⟩ := Res.bind_ok h
    obtain ⟨sl, h2, h⟩ := Res.bind_ok h
    obtain ⟨⟨q, os⟩, h3, h⟩ := Res.bind_ok h
    cases h
    rw [putBack_none (lentAt_noB hq.2)]
    exact evQuietA es _ _ _ hq.1 h1
  | .blt f es, en, en', d, hq, h => by
    unfold ev at h
    obtain ⟨⟨r, e1⟩, h1, h⟩ := Res.bind_ok h
    obtain ⟨c, h3, h⟩ := Res.bind_ok h
    cases h
    exact evQuietA es _ _ _ (by simpa [quiet] using hq) h1
  | .isi a ty, en, en', d, hq, h => by
    unfold ev at h
    obtain ⟨⟨r, e1⟩, h1, h⟩ := Res.bind_ok h
    obtain ⟨c, h3, h⟩ := Res.bind_ok h
    cases h
    exact evQuiet a _ _ _ (by simpa [quiet] using hq) h1
  | .mdef _ a i, en, en', d, hq, h => by
    unfold ev at h
    unfold quiet at hq
    rw [Bool.and_eq_true] at hq
    obtain ⟨⟨r, e1⟩, h1, h⟩ := Res.bind_ok h
    obtain ⟨⟨q, e2⟩, h2, h⟩ := Res.bind_ok h
    obtain ⟨c, h3, h⟩ := Res.bind_ok h
    cases h
    exact (evQuiet i _ _ _ hq.2 h2).trans (evQuiet a _ _ _ hq.1 h1)
  | .sub a i, en, en', d, hq, h => by
    unfold ev at h
    unfold quiet at hq
    rw [Bool.and_eq_true] at hq
    obtain ⟨⟨r, e1⟩, h1, h⟩ := Res.bind_ok h
    obtain ⟨⟨q, e2⟩, h2, h⟩ := Res.bind_ok h
    obtain ⟨c, h3, h⟩ := Res.bind_ok h
    cases h
    exact (evQuiet i _ _ _ hq.2 h2).trans (evQuiet a _ _ _ hq.1 h1)
  | .slice a lo hi, en, en', d, hq, h => by
    unfold ev at h
    unfold quiet at hq
    rw [Bool.and_eq_true, Bool.and_eq_true] at hq
    obtain ⟨⟨r, e1⟩, h1, h⟩ := Res.bind_ok h
    obtain ⟨⟨q, e2⟩, h2, h⟩ := Res.bind_ok h
    obtain ⟨⟨u, e3⟩, h3, h⟩ := Res.bind_ok h
    obtain ⟨l, h4, h⟩ := Res.bind_ok h
    obtain ⟨m, h5, h⟩ := Res.bind_ok h
    obtain ⟨c, h6, h⟩ := Res.bind_ok h
    cases h
    exact (evQuiet hi _ _ _ hq.2 h3).trans ((evQuiet lo _ _ _ hq.1.2 h2).trans (evQuiet a _ _ _ hq.1.1 h1))
  | .lc own pt sk src cnd elt, en, en', d, hq, h => by
    unfold ev at h
    unfold quiet at hq
    rw [Bool.and_eq_true, Bool.and_eq_true, Bool.and_eq_true] at hq
    obtain ⟨⟨⟨q1, q2⟩, q3⟩, q4⟩ := hq
    obtain ⟨⟨r, e1⟩, h1, h⟩ := Res.bind_ok h
    obtain ⟨its, h2, h⟩ := Res.bind_ok h
    obtain ⟨⟨ys, e2⟩, h3, h⟩ := Res.bind_ok h
    cases h
    have z1 := evQuietA src _ _ _ q1 h1
    subst z1
    have z2 : e2 = wipeE own e1 := by
      refine lcGo_same (fun d y e3 hs => ?_) its ys e2 h3
      obtain ⟨e4, b1, w1⟩ := Res.bind_ok hs
      obtain ⟨⟨c, e5⟩, b2, w2⟩ := Res.bind_ok w1
      obtain ⟨k, b3, w3⟩ := Res.bind_ok w2
      have z3 : e5 = e4 := evQuietA cnd _ _ _ q2 b2
      cases k with
      | true =>
        obtain ⟨⟨w, e6⟩, b4, w4⟩ := Res.bind_ok w3
        cases w4
        rw [show e6 = e5 from evQuiet elt _ _ _ q3 b4, z3]
        exact wipe_bind b1 q4
      | false =>
        cases w3
        rw [z3]
        exact wipe_bind b1 q4
    rw [z2]
    exact back_wipe own e1
  | .lc2 _ _ _ _ _ _ _ _ _ _ _, en, en', d, hq, h => by simp [quiet] at hq
theorem evQuietA : ∀ (xs : Exs) (en en' : En) (ds : List D), quietA xs = true → evs P G xs en = .ok (ds, en') → en' = en
  | .nil, en, en', ds, _, h => by cases h; rfl
  | .cons e es, en, en', ds, hq, h => by
    unfold evs at h
    unfold quietA at hq
    rw [Bool.and_eq_true] at hq
    obtain ⟨⟨r, e1⟩, h1, h⟩ := Res.bind_ok h
    obtain ⟨⟨q, e2⟩, h2, h⟩ := Res.bind_ok h
    cases h
    exact (evQuietA es _ _ _ hq.2 h2).trans (evQuiet e _ _ _ hq.1 h1)
end
end
end Vi

/-! Vi, part 7: names bound, loops over data. -/
namespace Vi
open PySem PySem.Spec PyProof.Rows
open L2
variable [Wx]

def clr (φ : Fp) (is : List Nat) : Fp := fun j => if j ∈ is then [] else φ j
theorem own_clr {φ : Fp} {is : List Nat} {a : Addr} (h : Own (clr φ is) a) : Own φ a := by
  obtain ⟨i, hi⟩ := h
  unfold clr at hi
  split at hi
  · cases hi
  · exact ⟨i, hi⟩
theorem clr_nil (φ : Fp) : clr φ [] = φ := funext fun j => if_neg (by simp)
theorem clr_same {φ : Fp} {is : List Nat} (h : ∀ i ∈ is, φ i = []) : clr φ is = φ := funext fun j => by
  unfold clr
  by_cases z : j ∈ is
  · rw [if_pos z, h j z]
  · rw [if_neg z]
theorem clr_cons (φ : Fp) (i : Nat) (is : List Nat) : clr (clr φ [i]) is = clr φ (i :: is) := funext fun j => by
  unfold clr
  by_cases h1 : j ∈ is
  · simp [h1]
  · by_cases h2 : j = i
    · simp [h2]
    · simp [h1, h2]
section
variable {K : PySem.W.Frag} {H H' : Hp} {σ : L2.St} {en : En} {φ : Fp}
theorem slotOk_mono {o : Option (Option V)} {s : Slot} {f : List Addr} (h : SlotOk K H o s f) (z : FzS H H') (k : ∀ a ∈ f, ∀ u, isOw u → H a = some u → H' a = some u) : SlotOk K H' o s f := by
  cases s with
  | no => exact h
  | fz d =>
    obtain ⟨⟨v, e1, r⟩, e2⟩ := h
    exact ⟨⟨v, e1, r.mono z⟩, e2⟩
  | ow ds =>
    obtain ⟨a, xs, e1, e2, r, e3⟩ := h
    exact ⟨a, xs, e1, k a (by rw [e3]; exact List.mem_singleton.mpr rfl) _ trivial e2, r.mono z, e3⟩
  | om rows =>
    obtain ⟨a, bs, e1, e2, r, e3, e4⟩ := h
    exact ⟨a, bs, e1, k a (by rw [e3]; exact List.mem_cons_self) _ trivial e2, r.mono z fun b hb u q => k b (by rw [e3]; exact List.mem_cons_of_mem _ hb) u q, e3, e4⟩
  | slf c =>
    obtain ⟨p, C, dx, ns, e1, e2, e3, e4⟩ := h
    exact ⟨p, C, dx, ns, e1, e2, k p (by rw [e4]; exact List.mem_singleton.mpr rfl) _ rfl e3, e4⟩
  | od ks vs =>
    obtain ⟨a, xs, e1, e2, k', r, e3⟩ := h
    exact ⟨a, xs, e1, k a (by rw [e3]; exact List.mem_singleton.mpr rfl) _ trivial e2, k', r.mono z, e3⟩
theorem slotOk_at {o o' : Option (Option V)} {s : Slot} {f : List Addr} (h : SlotOk K H o s f) (e : o = o') : SlotOk K H o' s f := e ▸ h
/-- an object of no name's own is written -/
theorem env_upd {D : Addr} {ys zs : List V} (h : EnvOk K H σ en φ) (hD : H D = some (.lst ys)) (no : ¬ Own φ D) : EnvOk K (upd H D (.lst zs)) σ en φ :=
  ⟨h.len, fun i => slotOk_mono (h.slot i) (fzS_upd fun u e f => by rw [hD] at e; cases e; exact f) fun a ha u _ e => (upd_ne (fun z => no ⟨i, by rw [← z]; exact ha⟩)).trans e, h.dis, tabs_upd h.tb hD (fun z => z)⟩
/-- a name is bound to a datum -/
theorem env_set {i : Nat} {v : V} {d : D} (h : EnvOk K H σ en φ) (r : Rep K H v d) (hi : i < en.length) : EnvOk K H (σ.set i (some v)) (en.set i (.fz d)) (clr φ [i]) := by
  refine ⟨by rw [List.length_set, List.length_set]; exact h.len, fun j => ?_, fun j k a hj hk => ?_, h.tb⟩
  · rw [getS_set]
    by_cases z : i = j
    · subst z
      rw [if_pos ⟨rfl, hi⟩, List.getElem?_set_self (by rw [h.len]; exact hi)]
      exact ⟨⟨v, rfl, r⟩, if_pos (by simp)⟩
    · rw [if_neg (fun q => z q.1), List.getElem?_set_ne z]
      have e : clr φ [i] j = φ j := if_neg (by simpa using fun q => z q.symm)
      rw [e]
      exact h.slot j
  · have e1 : a ∈ φ j := by unfold clr at hj; split at hj; cases hj; exact hj
    have e2 : a ∈ φ k := by unfold clr at hk; split at hk; cases hk; exact hk
    exact h.dis j k a e1 e2
/-- .. to a list of its own -/
def ownAt (φ : Fp) (i : Nat) (a : Addr) : Fp := fun j => if j = i then [a] else φ j
theorem env_ownS {i : Nat} {a : Addr} {t : Slot} (h : EnvOk K H σ en φ) (ht : SlotOk K H (some (some (.ref a))) t [a]) (hi : i < en.length) (no : ¬ Own φ a) :
    EnvOk K H (σ.set i (some (.ref a))) (en.set i t) (ownAt φ i a) := by
  refine ⟨by rw [List.length_set, List.length_set]; exact h.len, fun j => ?_, fun j k b hj hk => ?_, h.tb⟩
  · rw [getS_set]
    by_cases z : i = j
    · subst z
      rw [if_pos ⟨rfl, hi⟩, List.getElem?_set_self (by rw [h.len]; exact hi)]
      rw [show ownAt φ i a i = [a] from if_pos rfl]
      exact ht
    · rw [if_neg (fun q => z q.1), List.getElem?_set_ne z]
      rw [show ownAt φ i a j = φ j from if_neg fun q => z q.symm]
      exact h.slot j
  · unfold ownAt at hj hk
    by_cases z1 : j = i <;> by_cases z2 : k = i
    · rw [z1, z2]
    · rw [if_pos z1] at hj
      rw [if_neg z2] at hk
      rw [List.mem_singleton.mp hj] at hk
      exact absurd ⟨k, hk⟩ no
    · rw [if_neg z1] at hj
      rw [if_pos z2] at hk
      rw [List.mem_singleton.mp hk] at hj
      exact absurd ⟨j, hj⟩ no
    · rw [if_neg z1] at hj
      rw [if_neg z2] at hk
      exact h.dis j k b hj hk
theorem env_own {i : Nat} {a : Addr} {xs : List V} {ds : List D} (h : EnvOk K H σ en φ) (ha : H a = some (.lst xs)) (r : Reps K H xs ds) (hi : i < en.length) (no : ¬ Own φ a) :
    EnvOk K H (σ.set i (some (.ref a))) (en.set i (.ow ds)) (ownAt φ i a) := env_ownS h ⟨a, xs, rfl, ha, r, rfl⟩ hi no
theorem env_ownD {i : Nat} {a : Addr} {kvs : List (Key × V)} {ks vs : List D} (h : EnvOk K H σ en φ) (ha : H a = some (.dK kvs)) (hk : ks = kvs.map (fun kv => dK kv.1)) (r : Reps K H (kvs.map (·.2)) vs) (hi : i < en.length) (no : ¬ Own φ a) :
    EnvOk K H (σ.set i (some (.ref a))) (en.set i (.od ks vs)) (ownAt φ i a) := env_ownS h ⟨a, kvs, rfl, ha, hk, r, rfl⟩ hi no
end
/-! ### targets -/
def ptVars : Pat → List Nat
  | .v i => [i]
  | .t is => is
def gNames : List Nat → TGs
  | [] => gNil
  | i :: is => gCons (gName i) (gNames is)
def gP (K : PySem.W.Frag) : Pat → TG
  | .v i => gName i
  | .t is => gTup K is.length (gNames is)
theorem gNames_ok {K : PySem.W.Frag} {H : Hp} {Q : L2.St → Hp → Prop} : ∀ (is : List Nat) (vs : List V) (ds : List D) (σ : L2.St) (en : En) (φ : Fp), EnvOk K H σ en φ → Reps K H vs ds → is.length = ds.length → (∀ i ∈ is, i < en.length) →
    (∀ σ', EnvOk K H σ' ((is.zip ds).foldl (fun en p => en.set p.1 (.fz p.2)) en) (clr φ is) → (∀ j, j ∉ is → σ'[j]? = σ[j]?) → Q σ' H) → gNames is vs σ H Q
  | [], vs, ds, σ, en, φ, ok, r, hl, hi, q => by
    have e : ds = [] := List.eq_nil_of_length_eq_zero hl.symm
    subst e
    cases r
    exact ⟨rfl, q σ (by rw [clr_nil]; exact ok) fun _ _ => rfl⟩
  | i :: is, vs, [], σ, en, φ, ok, r, hl, hi, q => by cases hl
  | i :: is, vs, d :: ds, σ, en, φ, ok, r, hl, hi, q => by
    cases r with
    | cons r1 r2 =>
      refine ⟨_, _, rfl, ?_⟩
      refine gNames_ok is _ ds _ (en.set i (.fz d)) (clr φ [i]) (env_set ok r1 (hi i List.mem_cons_self)) r2 (by simpa using hl) (fun j hj => by rw [List.length_set]; exact hi j (List.mem_cons_of_mem _ hj)) fun σ' ok' hk => ?_
      rw [clr_cons] at ok'
      refine q σ' ok' fun j hj => ?_
      rw [hk j fun z => hj (List.mem_cons_of_mem _ z), List.getElem?_set_ne fun z => hj (by rw [z]; exact List.mem_cons_self)]
theorem gP_ok {K : PySem.W.Frag} {H : Hp} {Q : L2.St → Hp → Prop} {pt : Pat} {v : V} {d : D} {σ : L2.St} {en en' : En} {φ : Fp} (ok : EnvOk K H σ en φ) (r : Rep K H v d) (hb : bindP pt d en = .ok en') (hi : ∀ i ∈ ptVars pt, i < en.length)
    (q : ∀ σ', EnvOk K H σ' en' (clr φ (ptVars pt)) → (∀ j, j ∉ ptVars pt → σ'[j]? = σ[j]?) → Q σ' H) : gP K pt v σ H Q := by
  cases pt with
  | v i =>
    cases hb
    refine q _ (env_set ok r (hi i (by simp [ptVars]))) fun j hj => ?_
    exact List.getElem?_set_ne fun z => hj (by simp [ptVars, z])
  | t is =>
    obtain ⟨ds, rfl, hl, rfl⟩ := bindP_t hb
    cases r with
    | tup h1 r =>
      refine ⟨_, _, rfl, h1, by rw [r.length]; exact hl.symm, ?_⟩
      exact gNames_ok is _ ds σ en φ ok r hl hi q
section
variable {X : Cx} {pos : Pos}
theorem pgs_names (hN : X.N.Nodup) : ∀ (is : List Nat) (es : List Expr), (∀ (k : Nat) (i : Nat), is[k]? = some i → ∃ x p, es[k]? = some (.Name x p) ∧ X.N[i]? = some x ∧ Loc X.env.scope x ∧ (X.fn x = true ∨ X.env.scope.names.lookup x = some .local)) → is.length = es.length → PGs X es (gNames is)
  | [], [], _, _ => pgs_nil
  | [], _ :: _, _, hl => by cases hl
  | _ :: _, [], _, hl => by cases hl
  | i :: is, e :: es, h, hl => by
    obtain ⟨x, p, e1, e2, e3, e4⟩ := h 0 i rfl
    have e1 : e = .Name x p := Option.some.inj e1
    subst e1
    exact pgs_cons (pg_name hN e2 e3 e4) (pgs_names hN is es (fun k j hj => h (k + 1) j hj) (by simpa using hl))
theorem names_each {env : Env} : ∀ (es : List Expr), (∀ e ∈ es, ∃ x p, e = .Name x p) → (assignEach es env).length = es.length ∧ (assignEach es env).findIdx? (·.1) = none
  | [], _ => ⟨rfl, rfl⟩
  | e :: es, h => by
    obtain ⟨x, p, rfl⟩ := h e List.mem_cons_self
    obtain ⟨h1, h2⟩ := names_each es fun e he => h e (List.mem_cons_of_mem _ he)
    have q : assignEach (Expr.Name x p :: es) env = (false, assign (.Name x p) env) :: assignEach es env := rfl
    rw [q]
    exact ⟨by rw [List.length_cons, List.length_cons, h1], by rw [List.findIdx?_cons, h2]; rfl⟩
end
/-! ### what is walked -/
/-- its items are those data, while nothing frozen changes -/
def Wlk (K : PySem.W.Frag) (J : It) (its : List D) (H : Hp) : Prop :=
  ∃ (Gd : Hp → Prop) (Y : Nat → Hp → V → Hp → Prop), Walk J its.length Gd Y ∧ Gd H ∧ (∀ H1 H2, Gd H1 → FzS H1 H2 → Gd H2) ∧
    ∀ i H1 x H2 d, i < its.length → Gd H1 → its[i]? = some d → Y i H1 x H2 → Same H1 H2 ∧ Rep K H2 x d
section
variable {K : PySem.W.Frag} {H : Hp} {a b : Addr} {xs ys : List V} {ds es : List D}
theorem wlk_list (h : FzL K H a xs) (r : Reps K H xs ds) : Wlk K (Itl K a) ds H := by
  refine ⟨fun H => FzL K H a xs ∧ Reps K H xs ds, YAt xs, ?_, ⟨h, r⟩, fun H1 H2 g z => ⟨z.fzL g.1, g.2.mono z⟩, fun i H1 x H2 d hi g hd y => ?_⟩
  · rw [← r.length]
    exact walk_list.mono (fun H g => g.1.sq) fun _ _ _ _ _ _ y => y
  · obtain ⟨rfl, hx⟩ := y
    obtain ⟨v, hv, rv⟩ := g.2.get hd
    rw [hx] at hv
    cases hv
    exact ⟨.refl _, rv⟩
theorem wlk_tup (h : SqT K H a xs) (r : Reps K H xs ds) : Wlk K (Itt K a) ds H := by
  refine ⟨fun H => SqT K H a xs ∧ Reps K H xs ds, YAt xs, ?_, ⟨h, r⟩, fun H1 H2 g z => ⟨z.sqT g.1, g.2.mono z⟩, fun i H1 x H2 d hi g hd y => ?_⟩
  · rw [← r.length]
    exact walk_tup.mono (fun H g => g.1) fun _ _ _ _ _ _ y => y
  · obtain ⟨rfl, hx⟩ := y
    obtain ⟨v, hv, rv⟩ := g.2.get hd
    rw [hx] at hv
    cases hv
    exact ⟨.refl _, rv⟩
theorem rangeD_len (lo : Int) (n : Nat) : (rangeD lo n).length = n := by simp [rangeD]
theorem rangeD_get {lo : Int} {n i : Nat} {d : D} (h : (rangeD lo n)[i]? = some d) : d = .int (lo + i) := by
  unfold rangeD at h
  rw [List.getElem?_map] at h
  obtain ⟨k, e1, e2⟩ := Option.map_eq_some_iff.mp h
  rw [List.getElem?_range (by
    rcases Nat.lt_or_ge i n with q | q
    · exact q
    · rw [List.getElem?_eq_none (by simpa using q)] at e1; cases e1)] at e1
  cases e1
  exact e2.symm
theorem wlk_range (lo : Int) (n : Nat) : Wlk K (Itr lo n) (rangeD lo n) H := by
  refine ⟨fun _ => True, YFn fun i => .int (lo + i), ?_, trivial, fun _ _ _ _ => trivial, fun i H1 x H2 d hi g hd y => ?_⟩
  · rw [rangeD_len]
    exact walk_range
  · obtain ⟨rfl, rfl⟩ := y
    rw [rangeD_get hd]
    exact ⟨.refl _, .int _⟩
theorem wlk_rev (h : FzL K H a xs) (r : Reps K H xs ds) : Wlk K (Itv K a xs.length) ds.reverse H := by
  refine ⟨fun H => FzL K H a xs ∧ Reps K H xs ds, fun i H x H' => H' = H ∧ xs[xs.length - 1 - i]? = some x, ?_, ⟨h, r⟩, fun H1 H2 g z => ⟨z.fzL g.1, g.2.mono z⟩, fun i H1 x H2 d hi g hd y => ?_⟩
  · rw [List.length_reverse, ← r.length]
    exact walk_rev.mono (fun H g => g.1.sq) fun _ _ _ _ _ _ y => y
  · obtain ⟨rfl, hx⟩ := y
    rw [List.length_reverse] at hi
    rw [List.getElem?_reverse hi] at hd
    obtain ⟨v, hv, rv⟩ := g.2.get hd
    rw [r.length, hv] at hx
    cases hx
    exact ⟨.refl _, rv⟩
theorem wlk_zip (h1 : FzL K H a xs) (r1 : Reps K H xs ds) (h2 : FzL K H b ys) (r2 : Reps K H ys es) : Wlk K (Itz K a b) ((ds.zip es).map fun p => .tup [p.1, p.2]) H := by
  refine ⟨fun H => (FzL K H a xs ∧ Reps K H xs ds) ∧ FzL K H b ys ∧ Reps K H ys es, YPair (fun i => xs[i]?) (fun i => ys[i]?), ?_, ⟨⟨h1, r1⟩, h2, r2⟩, fun H1 H2 g z => ⟨⟨z.fzL g.1.1, g.1.2.mono z⟩, z.fzL g.2.1, g.2.2.mono z⟩, fun i H1 x H2 d hi g hd y => ?_⟩
  · exact (walk_zip (by simp [r1.length, r2.length])).mono (fun H g => ⟨g.1.1.sq, g.2.1.sq⟩) fun _ _ _ _ _ _ y => y
  · obtain ⟨T, u, w, rfl, hT, rfl, e1, e2⟩ := y
    rw [List.getElem?_map] at hd
    obtain ⟨⟨p, q⟩, f1, f2⟩ := Option.map_eq_some_iff.mp hd
    obtain ⟨f3, f4⟩ := List.getElem?_zip_eq_some.mp f1
    obtain ⟨u', g1, ru⟩ := g.1.2.get f3
    obtain ⟨w', g2, rw'⟩ := g.2.2.get f4
    have e1 : xs[i]? = some u := e1
    have e2 : ys[i]? = some w := e2
    rw [e1] at g1
    rw [e2] at g2
    cases g1
    cases g2
    subst f2
    exact ⟨same_upd hT, rep_newT hT (.cons ru (.cons rw' .nil))⟩
theorem wlk_enum (h1 : FzL K H a xs) (r1 : Reps K H xs ds) : Wlk K (Ite K a) ((ds.zipIdx).map fun p => .tup [.int (p.2 : Nat), p.1]) H := by
  refine ⟨fun H => FzL K H a xs ∧ Reps K H xs ds, YPair (fun i => some (.int (i : Nat))) (fun i => xs[i]?), ?_, ⟨h1, r1⟩, fun H1 H2 g z => ⟨z.fzL g.1, g.2.mono z⟩, fun i H1 x H2 d hi g hd y => ?_⟩
  · rw [List.length_map, List.length_zipIdx, ← r1.length]
    exact walk_enum.mono (fun H g => g.1.sq) fun _ _ _ _ _ _ y => y
  · obtain ⟨T, u, w, rfl, hT, rfl, e1, e2⟩ := y
    rw [List.getElem?_map] at hd
    obtain ⟨⟨p, q⟩, f1, f2⟩ := Option.map_eq_some_iff.mp hd
    rw [List.getElem?_zipIdx] at f1
    obtain ⟨p', f3, f4⟩ := Option.map_eq_some_iff.mp f1
    cases f4
    obtain ⟨w', g2, rw'⟩ := g.2.get f3
    have e2 : xs[i]? = some w := e2
    rw [e2] at g2
    cases g2
    cases e1
    subst f2
    refine ⟨same_upd hT, rep_newT hT (.cons ?_ (.cons rw' .nil))⟩
    rw [Nat.zero_add]
    exact .int _
end
end Vi

/-! Vi, part 8: the forms of expressions, one by one. -/
namespace Vi
open PySem PySem.Spec PyProof.Rows
open L2
variable [Wx]

def noStar : Expr → Bool
  | .Starred _ _ => false
  | _ => true
theorem star1 {e : Expr} {es : List Expr} {env : Env} (h : noStar e = true) : starEach (e :: es) env = (false, eval e env) :: starEach es env := by
  cases e <;> first | rfl | cases h
theorem starAny {pos : Pos} {env : Env} : ∀ {es : List Expr}, es.all noStar = true → (backTo pos (starEach es env)).any (·.1) = false
  | [], _ => rfl
  | e :: es, h => by
    rw [List.all_cons, Bool.and_eq_true] at h
    rw [star1 h.1]
    exact starAny (es := es) h.2
/-- an expression that is tested by its value -/
def plainTest : Expr → Bool
  | .UnaryOp .Not _ _ => false
  | .BoolOp _ _ _ => false
  | .IfExp _ _ _ _ => false
  | .Compare _ _ _ _ => false
  | _ => true
theorem plain_isTrue {e : Expr} {env : Env} (h : plainTest e = true) (wh : Sem Value) : isTrue e env wh = (do let v ← wh; standAt e.pos; holding [v] (truthy v)) := by
  cases e with
  | UnaryOp op a p => cases op <;> first | rfl | cases h
  | BoolOp _ _ _ => cases h
  | IfExp _ _ _ _ => cases h
  | Compare _ _ _ _ => cases h
  | _ => rfl
/-- a subscript that is no slice -/
def noSlice : Expr → Bool
  | .Slice _ _ _ _ => false
  | _ => true
theorem plainIx_of {e : Expr} (h : noSlice e = true) : PlainIx e := by
  intro o i
  cases e <;> first | rfl | cases h
def notSet : Expr → Bool
  | .Set _ _ _ => false
  | _ => true
theorem notSet_marks {op : CmpOp} {e : Expr} (h : notSet e = true) : behindInMarks op e = false := by
  cases e <;> first | rfl | cases h
theorem notSet_folded {e : Expr} {env : Env} (h : notSet e = true) (x : Value) : foldedSetIterable e env x = pure x := by
  cases e <;> first | rfl | cases h
section
variable {X : Cx} {P : Tb} {G : List D} {pos : Pos}
/-! names, constants -/
theorem peV {i : Nat} {x : Str} (hN : X.N[i]? = some x) (hv : Vis X.env.scope x) (h1 : (x == ("__debug__" : Str)) = false) (h2 : (x == ("__classdict__" : Str)) = false) : PE X (.Name x pos) (tE X.K P G (.var i)) := by
  refine peImp (pe_var hN hv h1 h2) fun σ H Q h => ?_
  obtain ⟨en, φ, ok, d, en', he, q⟩ := h
  unfold ev at he
  split at he
  · rename_i d0 e
    cases he
    obtain ⟨v, e1, r⟩ := ok.fz e
    exact ⟨v, e1, q v H ok .refl r⟩
  · cases he
theorem peB {i : Nat} {x : Str} (hN : X.N[i]? = some x) (hv : Vis X.env.scope x) (h1 : (x == ("__debug__" : Str)) = false) (h2 : (x == ("__classdict__" : Str)) = false) : PE X (.Name x pos) (tE X.K P G (.bvar i)) := by
  refine peImp (pe_var hN hv h1 h2) fun σ H Q h => ?_
  obtain ⟨en, φ, ok, d, en', he, q⟩ := h
  unfold ev at he
  split at he
  · rename_i d0 e
    cases he
    obtain ⟨a, xs, e1, _⟩ := ok.ow e
    exact ⟨.ref a, e1, q (.ref a) H ok .refl e1⟩
  · rename_i ks vs e
    cases he
    obtain ⟨a, xs, e1, _⟩ := ok.od e
    exact ⟨.ref a, e1, q (.ref a) H ok .refl e1⟩
  · cases he
theorem peC {x : Ex} {e : Expr} {v : V} {d : D} (h : PE X e (tC v)) (hr : ∀ H, Rep X.K H v d) (hx : isB x = false) (he : ∀ en, ev P G x en = .ok (d, en)) : PE X e (tE X.K P G x) := by
  refine peImp h fun σ H Q h => ?_
  obtain ⟨en, φ, ok, d', en', he', q⟩ := h
  rw [he en] at he'
  cases he'
  exact q v H ok .refl (rep_val hx (hr H))
/-! rows of expressions -/
theorem paN : PA X [] (tA X.K P G .nil) := by
  refine paImp pa_nil fun σ H Q h => ?_
  obtain ⟨en, φ, ok, ds, en', he, q⟩ := h
  cases he
  exact q [] H ok .refl .nil
theorem paC {e : Expr} {es : List Expr} {x : Ex} {xs : Exs} (hs : noStar e = true) (h1 : PE X e (tE X.K P G x)) (h2 : PA X es (tA X.K P G xs)) : PA X (e :: es) (tA X.K P G (.cons x xs)) := by
  refine paImp (pa_cons h1 h2 (star1 hs)) fun σ H Q h => ?_
  obtain ⟨en, φ, ok, ds, en', he, q⟩ := h
  unfold evs at he
  obtain ⟨⟨d, e1⟩, f1, he1⟩ := Res.bind_ok he
  obtain ⟨⟨r, e2⟩, f2, he2⟩ := Res.bind_ok he1
  cases he2
  refine ⟨en, φ, ok, d, e1, f1, fun v H1 ok1 ev1 v1 => ⟨e1, φ, ok1, r, e2, f2, fun vs H2 ok2 ev2 v2 => ?_⟩⟩
  exact q (v :: vs) H2 ok2 (ev1.trans' ev2) (.cons (v1.mono ev2.fz) v2)
theorem vls_reps {K : PySem.W.Frag} {σ : L2.St} {H : Hp} : ∀ {vs : List V} {ds : List D} {xs : Exs}, Vls K σ H vs ds xs → noB xs = true → Reps K H vs ds
  | _, _, _, .nil, _ => .nil
  | _, _, _, .cons h t, hb => by
    unfold noB at hb
    rw [Bool.and_eq_true] at hb
    exact .cons (val_rep (by simpa using hb.1) h) (vls_reps t hb.2)
def exsLen : Exs → Nat
  | .nil => 0
  | .cons _ es => exsLen es + 1
theorem vls_len {K : PySem.W.Frag} {σ : L2.St} {H : Hp} : ∀ {vs : List V} {ds : List D} {xs : Exs}, Vls K σ H vs ds xs → vs.length = exsLen xs
  | _, _, _, .nil => rfl
  | _, _, _, .cons h t => congrArg (· + 1) (vls_len t)
theorem peTup {es : List Expr} {xs : Exs} {k : Nat} (h : PA X es (tA X.K P G xs)) (hb : noB xs = true) (hl : exsLen xs ≤ 1000) : PE X (.Tuple es k pos) (tE X.K P G (.tup xs)) := by
  refine peImp (pe_tup h) fun σ H Q h => ?_
  obtain ⟨en, φ, ok, d, en', he, q⟩ := h
  unfold ev at he
  obtain ⟨⟨ds, e1⟩, f1, he1⟩ := Res.bind_ok he
  cases he1
  refine ⟨en, φ, ok, ds, _, f1, fun vs H1 ok1 ev1 v1 => ⟨by rw [vls_len v1, sizeLine_eq]; omega, fun p hp => ?_⟩⟩
  exact q _ _ (ok1.mono (same_upd hp)) (ev1.trans' (.of (same_upd hp))) (rep_newT hp (vls_reps v1 hb))
theorem none_before {H H' : Hp} {φ : Fp} {σ : L2.St} {en : En} {K : PySem.W.Frag} {p : Addr} (ok : EnvOk K H' σ en φ) (ev : Evo H (Own φ) H') (hp : Fr H' p) : Fr H p := fun w k e => by
  by_cases o : Own φ p
  · obtain ⟨u, z, hu⟩ := ok.own o
    exact hp u (ow_nT hu) z
  · exact hp w k (ev.keep p w o k e)
theorem peLst {es : List Expr} {xs : Exs} (h : PA X es (tA X.K P G xs)) (hb : noB xs = true) (hl : exsLen xs ≤ 1000) : PE X (.List es pos) (tO X.K P G (.lst xs)) := by
  refine peImp (pe_lst h) fun σ H Q h => ?_
  obtain ⟨en, φ, ok, d, en', he, q⟩ := h
  unfold ev at he
  obtain ⟨⟨ds, e1⟩, f1, he1⟩ := Res.bind_ok he
  cases he1
  refine ⟨en, φ, ok, ds, _, f1, fun vs H1 ok1 ev1 v1 => ⟨by rw [vls_len v1, sizeLine_eq]; omega, fun p hp => ?_⟩⟩
  refine q _ _ (ok1.mono (same_upd hp)) (ev1.trans' (.of (same_upd hp))) ⟨p, vs, rfl, ?_, upd_same, (vls_reps v1 hb).mono (.of (same_upd hp))⟩
  exact none_before ok1 ev1 (.of hp)
theorem valO_before {K : PySem.W.Frag} {H H1 H2 : Hp} {φ : Fp} {σ : L2.St} {en : En} {v : V} {d : D} (ok : EnvOk K H1 σ en φ) (ev : Evo H (Own φ) H1) (h : ValO K H1 H2 v d) : ValO K H H2 v d := by
  cases d with
  | lst ds =>
    obtain ⟨p, xs, e4, hp, h3, r⟩ := h
    exact ⟨p, xs, e4, none_before ok ev hp, h3, r⟩
  | dic ks vs =>
    obtain ⟨p, xs, e4, hp, h3, k, r⟩ := h
    exact ⟨p, xs, e4, none_before ok ev hp, h3, k, r⟩
  | _ => exact h
/-! two operands -/
/-- where x leaves its value as it came, what it is at the end -/
theorem pair_nw {a b : Ex} {en e1 e2 : En} {d1 d2 : D} {H1 H2 : Hp} {σ : L2.St} {φ : Fp} {v1 v2 : V} (hq : isB a = false ∨ quiet b = true) (f1 : ev P G a en = .ok (d1, e1)) (f2 : ev P G b e1 = .ok (d2, e2))
    (ok2 : EnvOk X.K H2 σ e2 φ) (v1 : Val X.K σ H2 v d1 a) (v2 : Val X.K σ H2 w d2 b) : Nw X.K H2 v d1 ∧ Nw X.K H2 w d2 := by
  refine ⟨?_, val_nw ok2 v2 f2⟩
  rcases hq with hq | hq
  · exact (val_rep hq v1).nw
  · rw [evQuiet b _ _ _ hq f2] at ok2
    exact val_nw ok2 v1 f1
theorem peBinO {op : BOp} {a b : Expr} {x y : Ex} (ha : PE X a (tE X.K P G x)) (hb : PE X b (tE X.K P G y)) (hq : isB x = false ∨ quiet y = true) : PE X (.BinOp a (astB op) b pos) (tO X.K P G (.bin op x y)) := by
  refine peImp (pe_op (op_bin op) ha hb) fun σ H Q h => ?_
  obtain ⟨en, φ, ok, d, en', he, q⟩ := h
  unfold ev at he
  obtain ⟨⟨d1, e1⟩, f1, he1⟩ := Res.bind_ok he
  obtain ⟨⟨d2, e2⟩, f2, he2⟩ := Res.bind_ok he1
  obtain ⟨c, f3, he3⟩ := Res.bind_ok he2
  cases he3
  refine ⟨en, φ, ok, d1, e1, f1, fun v H1 ok1 ev1 v1 => ⟨e1, φ, ok1, d2, _, f2, fun w H2 ok2 ev2 v2 => ?_⟩⟩
  obtain ⟨n1, n2⟩ := pair_nw (v1 := v) (v2 := w) (H1 := H1) hq f1 f2 ok2 (v1.mono ev2.fz) v2
  refine ⟨d1, d2, d, n1, n2, f3, fun u H3 vo sm => q u H3 (ok2.mono sm) ((ev1.trans' ev2).trans' (.of sm)) ?_⟩
  exact valO_before ok2 (ev1.trans' ev2) vo
theorem peCmp {op : COp} {a b : Expr} {x y : Ex} (ho : OpR X (compareOp (astC op)) (rB X.K (cmpD op))) (ha : PE X a (tE X.K P G x)) (hb : PE X b (tE X.K P G y)) (hq : isB x = false ∨ quiet y = true) (hs : notSet b = true) :
    PE X (.Compare a [astC op] [b] pos) (tE X.K P G (.cmp op x y)) := by
  refine peImp (pe_cmpR ho ha hb (notSet_marks hs)) fun σ H Q h => ?_
  obtain ⟨en, φ, ok, d, en', he, q⟩ := h
  unfold ev at he
  obtain ⟨⟨d1, e1⟩, f1, he1⟩ := Res.bind_ok he
  obtain ⟨⟨d2, e2⟩, f2, he2⟩ := Res.bind_ok he1
  obtain ⟨c, f3, he3⟩ := Res.bind_ok he2
  cases he3
  refine ⟨en, φ, ok, d1, e1, f1, fun v H1 ok1 ev1 v1 => ⟨e1, φ, ok1, d2, _, f2, fun w H2 ok2 ev2 v2 => ?_⟩⟩
  obtain ⟨n1, n2⟩ := pair_nw (v1 := v) (v2 := w) (H1 := H1) hq f1 f2 ok2 (v1.mono ev2.fz) v2
  exact ⟨d1, d2, c, n1, n2, f3, q _ H2 ok2 (ev1.trans' ev2) (.bl c)⟩
theorem ptCmp {op : COp} {a b : Expr} {x y : Ex} (ho : OpR X (compareOp (astC op)) (rB X.K (cmpD op))) (ha : PE X a (tE X.K P G x)) (hb : PE X b (tE X.K P G y)) (hq : isB x = false ∨ quiet y = true) (hs : notSet b = true) :
    PT X (.Compare a [astC op] [b] pos) (tT X.K P G (.cmp op x y)) := by
  refine ptImp (pt_cmpR ho ha hb (notSet_marks hs)) fun σ H Q h => ?_
  obtain ⟨en, φ, ok, d, en', he, q⟩ := h
  unfold ev at he
  obtain ⟨⟨d1, e1⟩, f1, he1⟩ := Res.bind_ok he
  obtain ⟨⟨d2, e2⟩, f2, he2⟩ := Res.bind_ok he1
  obtain ⟨c, f3, he3⟩ := Res.bind_ok he2
  cases he3
  refine ⟨en, φ, ok, d1, e1, f1, fun v H1 ok1 ev1 v1 => ⟨e1, φ, ok1, d2, _, f2, fun w H2 ok2 ev2 v2 => ?_⟩⟩
  obtain ⟨n1, n2⟩ := pair_nw (v1 := v) (v2 := w) (H1 := H1) hq f1 f2 ok2 (v1.mono ev2.fz) v2
  exact ⟨d1, d2, d, n1, n2, f3, d, rfl, q H2 ok2 (ev1.trans' ev2)⟩
theorem lastMarks2 {op op' : CmpOp} {b c : Expr} (h : notSet c = true) : lastMarks [op, op'] [b, c] = false := by
  show behindInMarks op' c = false
  exact notSet_marks h
theorem chain_red {op op' : COp} {x y z : Ex} {en en' : En} {d : D} (h : ev P G (.chain op op' x y z) en = .ok (d, en')) : ∃ d1 e1 d2 e2 k, ev P G x en = .ok (d1, e1) ∧ ev P G y e1 = .ok (d2, e2) ∧ cmpD op d1 d2 = .ok k ∧
    ((k = false ∧ d = .bl false ∧ en' = e2) ∨ (k = true ∧ ∃ d3 e3 m, ev P G z e2 = .ok (d3, e3) ∧ cmpD op' d2 d3 = .ok m ∧ d = .bl m ∧ en' = e3)) := by
  unfold ev at h
  obtain ⟨⟨d1, e1⟩, f1, he1⟩ := Res.bind_ok h
  obtain ⟨⟨d2, e2⟩, f2, he2⟩ := Res.bind_ok he1
  obtain ⟨c, f3, he3⟩ := Res.bind_ok he2
  refine ⟨d1, e1, d2, e2, c, f1, f2, f3, ?_⟩
  cases c with
  | false => cases he3; exact .inl ⟨rfl, rfl, rfl⟩
  | true =>
    obtain ⟨⟨d3, e3⟩, f4, he4⟩ := Res.bind_ok he3
    obtain ⟨m, f5, he5⟩ := Res.bind_ok he4
    cases he5
    exact .inr ⟨rfl, d3, e3, m, f4, f5, rfl, rfl⟩
theorem chainT {op op' : COp} {a b c : Expr} {x y z : Ex} (hx : isB x = false) (hy : isB y = false) {σ : L2.St} {H : Hp} {Q : VK} (h : tE X.K P G (.chain op op' x y z) σ H Q) (hz : isB z = false) :
    tChain (rB X.K (cmpD op)) (rB X.K (cmpD op')) (tE X.K P G x) (tE X.K P G y) (tE X.K P G z) σ H Q := by
  obtain ⟨en, φ, ok, d, en', he, q⟩ := h
  obtain ⟨d1, e1, d2, e2, k, f1, f2, f3, hk⟩ := chain_red he
  refine ⟨en, φ, ok, d1, e1, f1, fun v H1 ok1 ev1 v1 => ⟨e1, φ, ok1, d2, _, f2, fun w H2 ok2 ev2 v2 => ?_⟩⟩
  refine ⟨d1, d2, k, ((val_rep hx v1).mono ev2.fz).nw, (val_rep hy v2).nw, f3, k, rfl, ?_⟩
  rcases hk with ⟨rfl, rfl, rfl⟩ | ⟨rfl, d3, e3, m, f4, f5, rfl, rfl⟩
  · rw [if_neg Bool.false_ne_true]
    exact q _ H2 ok2 (ev1.trans' ev2) (.bl false)
  · rw [if_pos rfl]
    refine ⟨e2, φ, ok2, d3, _, f4, fun u H3 ok3 ev3 v3 => ?_⟩
    exact ⟨d2, d3, m, ((val_rep hy v2).mono ev3.fz).nw, (val_rep hz v3).nw, f5, q _ H3 ok3 ((ev1.trans' ev2).trans' ev3) (.bl m)⟩
theorem peChain {op op' : COp} {a b c : Expr} {x y z : Ex} (ho : OpR X (compareOp (astC op)) (rB X.K (cmpD op))) (ho' : OpR X (compareOp (astC op')) (rB X.K (cmpD op'))) (ha : PE X a (tE X.K P G x)) (hb : PE X b (tE X.K P G y)) (hc : PE X c (tE X.K P G z))
    (hx : isB x = false) (hy : isB y = false) (hz : isB z = false) (hs : notSet c = true) : PE X (.Compare a [astC op, astC op'] [b, c] pos) (tE X.K P G (.chain op op' x y z)) :=
  peImp (pe_chain ho ho' ha hb hc (lastMarks2 hs)) fun σ H Q h => chainT (a := a) (b := b) (c := c) hx hy h hz
/-- a test's wish as a value's -/
theorem tT_E {x : Ex} (hx : isB x = false) {σ : L2.St} {H : Hp} {Q : Bool → Hp → Prop} (h : tT X.K P G x σ H Q) : tE X.K P G x σ H fun v H' => ∃ k, v = .bl k ∧ Q k H' := by
  obtain ⟨en, φ, ok, b, en', he, q⟩ := h
  refine ⟨en, φ, ok, .bl b, en', he, fun v H' ok' ev' vv => ⟨b, ?_, q H' ok' ev'⟩⟩
  have r := val_rep hx vv
  cases r
  rfl
theorem ptChain {op op' : COp} {a b c : Expr} {x y z : Ex} (ho : OpR X (compareOp (astC op)) (rB X.K (cmpD op))) (ho' : OpR X (compareOp (astC op')) (rB X.K (cmpD op'))) (ha : PE X a (tE X.K P G x)) (hb : PE X b (tE X.K P G y)) (hc : PE X c (tE X.K P G z))
    (hx : isB x = false) (hy : isB y = false) (hz : isB z = false) (hs : notSet c = true) : PT X (.Compare a [astC op, astC op'] [b, c] pos) (tT X.K P G (.chain op op' x y z)) :=
  ptImp (pt_chain ho ho' ha hb hc (lastMarks2 hs)) fun σ H Q h => chainT (a := a) (b := b) (c := c) hx hy (tT_E (x := .chain op op' x y z) rfl h) hz
/-- an expression tested by its value -/
theorem ptVal {e : Expr} {x : Ex} (h : PE X e (tE X.K P G x)) (hx : isB x = false) (hp : plainTest e = true) : PT X e (tT X.K P G x) :=
  ptImp (pt_val h (plain_isTrue hp)) fun σ H Q q => tT_E hx q
/-! and, or, not, if -/
theorem asBl_ok {d : D} {b : Bool} (h : asBl d = .ok b) : d = .bl b := by
  cases d <;> cases h
  rfl
theorem peAnd {a b : Expr} {rest : List Expr} {x y : Ex} (ha : PE X a (tE X.K P G x)) (hb : PE X (.BoolOp .And (b :: rest) pos) (tE X.K P G y)) (hx : isB x = false) (hy : isB y = false) : PE X (.BoolOp .And (a :: b :: rest) pos) (tE X.K P G (.and x y)) := by
  refine peImp (pe_and ha hb) fun σ H Q h => ?_
  obtain ⟨en, φ, ok, d, en', he, q⟩ := h
  unfold ev at he
  obtain ⟨⟨d1, e1⟩, f1, he1⟩ := Res.bind_ok he
  obtain ⟨k, f2, he2⟩ := Res.bind_ok he1
  obtain rfl := asBl_ok f2
  refine ⟨en, φ, ok, _, e1, f1, fun v H1 ok1 ev1 v1 => ?_⟩
  have r := val_rep hx v1
  cases r
  refine ⟨k, rfl, ?_⟩
  cases k with
  | false => cases he2; exact q _ H1 ok1 ev1 (.bl false)
  | true => exact ⟨e1, φ, ok1, d, en', he2, fun w H2 ok2 ev2 v2 => q w H2 ok2 (ev1.trans' ev2) (rep_val rfl (val_rep hy v2))⟩
theorem peOr {a b : Expr} {rest : List Expr} {x y : Ex} (ha : PE X a (tE X.K P G x)) (hb : PE X (.BoolOp .Or (b :: rest) pos) (tE X.K P G y)) (hx : isB x = false) (hy : isB y = false) : PE X (.BoolOp .Or (a :: b :: rest) pos) (tE X.K P G (.or x y)) := by
  refine peImp (pe_or ha hb) fun σ H Q h => ?_
  obtain ⟨en, φ, ok, d, en', he, q⟩ := h
  unfold ev at he
  obtain ⟨⟨d1, e1⟩, f1, he1⟩ := Res.bind_ok he
  obtain ⟨k, f2, he2⟩ := Res.bind_ok he1
  obtain rfl := asBl_ok f2
  refine ⟨en, φ, ok, _, e1, f1, fun v H1 ok1 ev1 v1 => ?_⟩
  have r := val_rep hx v1
  cases r
  refine ⟨k, rfl, ?_⟩
  cases k with
  | true => cases he2; exact q _ H1 ok1 ev1 (.bl true)
  | false => exact ⟨e1, φ, ok1, d, en', he2, fun w H2 ok2 ev2 v2 => q w H2 ok2 (ev1.trans' ev2) (rep_val rfl (val_rep hy v2))⟩
theorem pwAnd {a b : Expr} {rest : List Expr} {x y : Ex} (ha : PT X a (tT X.K P G x)) (hb : PW X (.BoolOp .And (b :: rest) pos) (tT X.K P G y)) : PW X (.BoolOp .And (a :: b :: rest) pos) (tT X.K P G (.and x y)) := by
  refine pwImp (pw_and ha hb) fun σ H Q h => ?_
  obtain ⟨en, φ, ok, d, en', he, q⟩ := h
  unfold ev at he
  obtain ⟨⟨d1, e1⟩, f1, he1⟩ := Res.bind_ok he
  obtain ⟨k, f2, he2⟩ := Res.bind_ok he1
  obtain rfl := asBl_ok f2
  refine ⟨en, φ, ok, k, e1, f1, fun H1 ok1 ev1 => ?_⟩
  cases k with
  | false => cases he2; exact q H1 ok1 ev1
  | true => exact ⟨e1, φ, ok1, d, en', he2, fun H2 ok2 ev2 => q H2 ok2 (ev1.trans' ev2)⟩
theorem pwOr {a b : Expr} {rest : List Expr} {x y : Ex} (ha : PT X a (tT X.K P G x)) (hb : PW X (.BoolOp .Or (b :: rest) pos) (tT X.K P G y)) : PW X (.BoolOp .Or (a :: b :: rest) pos) (tT X.K P G (.or x y)) := by
  refine pwImp (pw_or ha hb) fun σ H Q h => ?_
  obtain ⟨en, φ, ok, d, en', he, q⟩ := h
  unfold ev at he
  obtain ⟨⟨d1, e1⟩, f1, he1⟩ := Res.bind_ok he
  obtain ⟨k, f2, he2⟩ := Res.bind_ok he1
  obtain rfl := asBl_ok f2
  refine ⟨en, φ, ok, k, e1, f1, fun H1 ok1 ev1 => ?_⟩
  cases k with
  | true => cases he2; exact q H1 ok1 ev1
  | false => exact ⟨e1, φ, ok1, d, en', he2, fun H2 ok2 ev2 => q H2 ok2 (ev1.trans' ev2)⟩
theorem pw1 {op : BoolOp} {a : Expr} {x : Ex} (ha : PT X a (tT X.K P G x)) : PW X (.BoolOp op [a] pos) (tT X.K P G x) := by
  cases op with
  | And => exact pw_and1 ha
  | Or => exact pw_or1 ha
theorem ev_not {x : Ex} {en en' : En} {d : D} (he : ev P G (.not x) en = .ok (d, en')) : ∃ k, ev P G x en = .ok (.bl k, en') ∧ d = .bl (!k) := by
  unfold ev at he
  obtain ⟨⟨d1, e1⟩, f1, he1⟩ := Res.bind_ok he
  obtain ⟨k, f2, he2⟩ := Res.bind_ok he1
  cases asBl_ok f2
  cases he2
  exact ⟨k, f1, rfl⟩
theorem peNot {a : Expr} {x : Ex} (ha : PE X a (tE X.K P G x)) (hx : isB x = false) : PE X (.UnaryOp .Not a pos) (tE X.K P G (.not x)) := by
  refine peImp (pe_not ha) fun σ H Q h => ?_
  obtain ⟨en, φ, ok, d, en', he, q⟩ := h
  obtain ⟨k, f1, rfl⟩ := ev_not he
  refine ⟨en, φ, ok, _, _, f1, fun v H1 ok1 ev1 v1 => ?_⟩
  have r := val_rep hx v1
  cases r
  exact ⟨k, rfl, q _ H1 ok1 ev1 (.bl _)⟩
theorem ptNot {a : Expr} {x : Ex} (ha : PT X a (tT X.K P G x)) : PT X (.UnaryOp .Not a pos) (tT X.K P G (.not x)) := by
  refine ptImp (pt_not ha) fun σ H Q h => ?_
  obtain ⟨en, φ, ok, d, en', he, q⟩ := h
  obtain ⟨k, f1, e⟩ := ev_not he
  cases e
  exact ⟨en, φ, ok, k, en', f1, fun H1 ok1 ev1 => q H1 ok1 ev1⟩
theorem peNeg {a : Expr} {x : Ex} (ha : PE X a (tE X.K P G x)) (hx : isB x = false) : PE X (.UnaryOp .USub a pos) (tE X.K P G (.neg x)) := by
  refine peImp (pe_un un_neg ha) fun σ H Q h => ?_
  obtain ⟨en, φ, ok, d, en', he, q⟩ := h
  unfold ev at he
  obtain ⟨⟨d1, e1⟩, f1, he1⟩ := Res.bind_ok he
  obtain ⟨k, f2, he2⟩ := Res.bind_ok he1
  cases he2
  refine ⟨en, φ, ok, _, _, f1, fun v H1 ok1 ev1 v1 => ?_⟩
  have r := val_rep hx v1
  cases d1 <;> cases f2
  cases r
  exact ⟨k, rfl, q _ H1 ok1 ev1 (.int _)⟩
theorem peIf {c a b : Expr} {z x y : Ex} (hc : PT X c (tT X.K P G z)) (ha : PE X a (tE X.K P G x)) (hb : PE X b (tE X.K P G y)) (hx : isB x = false) (hy : isB y = false) : PE X (.IfExp c a b pos) (tE X.K P G (.ite z x y)) := by
  refine peImp (pe_ifExp hc ha hb) fun σ H Q h => ?_
  obtain ⟨en, φ, ok, d, en', he, q⟩ := h
  unfold ev at he
  obtain ⟨⟨d1, e1⟩, f1, he1⟩ := Res.bind_ok he
  obtain ⟨k, f2, he2⟩ := Res.bind_ok he1
  obtain rfl := asBl_ok f2
  refine ⟨en, φ, ok, k, e1, f1, fun H1 ok1 ev1 => ?_⟩
  cases k with
  | true => exact ⟨e1, φ, ok1, d, en', he2, fun w H2 ok2 ev2 v2 => q w H2 ok2 (ev1.trans' ev2) (rep_val rfl (val_rep hx v2))⟩
  | false => exact ⟨e1, φ, ok1, d, en', he2, fun w H2 ok2 ev2 v2 => q w H2 ok2 (ev1.trans' ev2) (rep_val rfl (val_rep hy v2))⟩
theorem ptIf {c a b : Expr} {z x y : Ex} (hc : PT X c (tT X.K P G z)) (ha : PT X a (tT X.K P G x)) (hb : PT X b (tT X.K P G y)) : PT X (.IfExp c a b pos) (tT X.K P G (.ite z x y)) := by
  refine ⟨fun pins s σ H Q I h => ?_⟩
  obtain ⟨en, φ, ok, d, en', he, q⟩ := h
  unfold ev at he
  obtain ⟨⟨d1, e1⟩, f1, he1⟩ := Res.bind_ok he
  obtain ⟨k, f2, he2⟩ := Res.bind_ok he1
  obtain rfl := asBl_ok f2
  refine isTrue_IfExp (thn (hc.run pins s σ H (fun k' H1 => if k' = true then tT X.K P G x σ H1 Q else tT X.K P G y σ H1 Q) I ⟨en, φ, ok, k, e1, f1, fun H1 ok1 ev1 => ?_⟩) fun k' s1 z => ?_)
  · cases k with
    | true => exact ⟨e1, φ, ok1, d, en', he2, fun H2 ok2 ev2 => q H2 ok2 (ev1.trans' ev2)⟩
    | false => exact ⟨e1, φ, ok1, d, en', he2, fun H2 ok2 ev2 => q H2 ok2 (ev1.trans' ev2)⟩
  · obtain ⟨H1, I1, z⟩ := z
    cases k' with
    | true => exact ha.run pins s1 σ H1 Q I1 z
    | false => exact hb.run pins s1 σ H1 Q I1 z
end
end Vi

/-! Vi, part 9: comparisons, built-in functions, items, slices. -/
namespace Vi
open PySem PySem.Spec PyProof.Rows
open L2
variable [Wx]

section
variable {X : Cx}
theorem inD_ok {x : D} {ys : List D} {b : Bool} (h : inD x ys = .ok b) : ∃ p ps, toP x = some p ∧ toPs ys = some ps ∧ SeqAt.shaped p = true ∧ SeqAt.shaped (.list ps) = true ∧ b = ps.any fun z => PyData.eqv z p := by
  unfold inD at h
  cases h1 : toP x with
  | none => rw [h1] at h; cases h
  | some p =>
    cases h2 : toPs ys with
    | none => rw [h1, h2] at h; cases h
    | some ps =>
      rw [h1, h2] at h
      simp only at h
      split at h
      · rename_i z
        cases h
        exact ⟨p, ps, rfl, rfl, z.1, z.2, rfl⟩
      · cases h
theorem toP_lst {ds : List D} {ps : List PyData} (h : toPs ds = some ps) : toP (.lst ds) = some (.list ps) := by unfold toP; rw [h]; rfl
theorem toP_tup {ds : List D} {ps : List PyData} (h : toPs ds = some ps) : toP (.tup ds) = some (.tuple ps) := by unfold toP; rw [h]; rfl
theorem tupleRoom {A : Around} {p : PyData} {ps : List PyData} (hp : SeqAt.shaped p = true) (hu : A.units + 80 < cLine) : A.units + 1 + min (PyData.depthAll ps) p.depth < cLine := by
  have h1 := SeqAt.depth_of_shaped hp
  have h2 : min (PyData.depthAll ps) p.depth ≤ p.depth := Nat.min_le_right _ _
  omega
/-- x in a list, in a tuple -/
theorem op_inX (hu : X.A.units + 80 < cLine) : OpR X (compareOp .In) (rB X.K (cmpD .isin)) := by
  intro pins s σ H x y v u Q I rx ry h
  obtain ⟨d, e, b, hd, he, hc, q⟩ := h
  cases e with
  | lst es =>
    obtain ⟨p, ps, h1, h2, h3, h4, rfl⟩ := inD_ok (show inD d es = .ok b from hc)
    exact op_inD (by omega) pins s σ H x y v u Q I rx ry ⟨p, ps, hd.dp h1, he.dp (toP_lst h2), h3, h4, q⟩
  | tup es =>
    obtain ⟨p, ps, h1, h2, h3, h4, rfl⟩ := inD_ok (show inD d es = .ok b from hc)
    obtain ⟨as, r1⟩ := Dp.reads I p x v (hd.dp h1) rx
    obtain ⟨bs, r2⟩ := Dp.reads I (.tuple ps) y u (he.dp (toP_tup h2)) ry
    exact SeqAt.in_tuple_reads r2 r1 (SeqAt.canLay_of_shaped h4) (SeqAt.canLay_of_shaped h3) (tupleRoom h3 hu) ⟨.bl _, H, I, rfl, q⟩
  | _ => cases hc
theorem op_notinX (hu : X.A.units + 80 < cLine) : OpR X (compareOp .NotIn) (rB X.K (cmpD .notin)) := by
  intro pins s σ H x y v u Q I rx ry h
  obtain ⟨d, e, b, hd, he, hc, q⟩ := h
  cases e with
  | lst es =>
    obtain ⟨c, hc, e2⟩ := Res.bind_ok (show (inD d es >>= fun z => pure !z) = .ok b from hc)
    obtain ⟨p, ps, h1, h2, h3, h4, rfl⟩ := inD_ok hc
    cases e2
    exact op_notInD (by omega) pins s σ H x y v u Q I rx ry ⟨p, ps, hd.dp h1, he.dp (toP_lst h2), h3, h4, q⟩
  | tup es =>
    obtain ⟨c, hc, e2⟩ := Res.bind_ok (show (inD d es >>= fun z => pure !z) = .ok b from hc)
    obtain ⟨p, ps, h1, h2, h3, h4, rfl⟩ := inD_ok hc
    cases e2
    obtain ⟨as, r1⟩ := Dp.reads I p x v (hd.dp h1) rx
    obtain ⟨bs, r2⟩ := Dp.reads I (.tuple ps) y u (he.dp (toP_tup h2)) ry
    exact SeqAt.notIn_tuple_reads r2 r1 (SeqAt.canLay_of_shaped h4) (SeqAt.canLay_of_shaped h3) (tupleRoom h3 hu) ⟨.bl _, H, I, rfl, q⟩
  | _ => cases hc
theorem isNon_V {K : PySem.W.Frag} {H : Hp} {v : V} {d : D} (h : Nw K H v d) : decide (v = .non) = isNon d := by
  cases d with
  | lst ds =>
    obtain ⟨a, xs, rfl, _⟩ := nw_lst h
    rfl
  | dic ks vs =>
    obtain ⟨a, xs, rfl, _⟩ := h
    rfl
  | _ => cases h <;> rfl
theorem op_cmp (hu : X.A.units + 80 < cLine) (op : COp) : OpR X (compareOp (astC op)) (rB X.K (cmpD op)) := by
  cases op with
  | eq => exact op_eqX (by omega)
  | ne => exact op_neX (by omega)
  | lt => exact op_ltX hu
  | isin => exact op_inX hu
  | notin => exact op_notinX hu
  | gt =>
    intro pins s σ H x y v u Q I rx ry h
    obtain ⟨d, e, b, hd, he, hc, q⟩ := h
    cases d <;> try cases hc
    cases e <;> cases hc
    obtain rfl := nw_int hd
    obtain rfl := nw_int he
    exact op_gt pins s σ H _ _ v u Q I rx ry ⟨_, _, rfl, rfl, q⟩
  | le =>
    intro pins s σ H x y v u Q I rx ry h
    obtain ⟨d, e, b, hd, he, hc, q⟩ := h
    cases d <;> try cases hc
    cases e <;> cases hc
    obtain rfl := nw_int hd
    obtain rfl := nw_int he
    exact op_le pins s σ H _ _ v u Q I rx ry ⟨_, _, rfl, rfl, q⟩
  | ge =>
    intro pins s σ H x y v u Q I rx ry h
    obtain ⟨d, e, b, hd, he, hc, q⟩ := h
    cases d <;> try cases hc
    cases e <;> cases hc
    obtain rfl := nw_int hd
    obtain rfl := nw_int he
    exact op_ge pins s σ H _ _ v u Q I rx ry ⟨_, _, rfl, rfl, q⟩
  | is =>
    intro pins s σ H x y v u Q I rx ry h
    obtain ⟨d, e, b, hd, he, hc, q⟩ := h
    cases e <;> try cases hc
    · obtain rfl := nw_non he
      exact op_isN pins s σ H _ _ v u Q I rx ry ⟨rfl, by rw [isNon_V hd]; exact q⟩
    · cases d <;> try cases hc
      obtain rfl := nw_bl hd
      obtain rfl := nw_bl he
      exact op_is_bl pins s σ H _ _ v u Q I rx ry ⟨_, _, rfl, rfl, q⟩
  | isnot =>
    intro pins s σ H x y v u Q I rx ry h
    obtain ⟨d, e, b, hd, he, hc, q⟩ := h
    cases e <;> try cases hc
    · obtain rfl := nw_non he
      exact op_notN pins s σ H _ _ v u Q I rx ry ⟨rfl, by rw [isNon_V hd]; exact q⟩
    · cases d <;> try cases hc
      obtain rfl := nw_bl hd
      obtain rfl := nw_bl he
      exact op_isnot_bl pins s σ H _ _ v u Q I rx ry ⟨_, _, rfl, rfl, q⟩
/-! items, slices -/
theorem atI_reps {K : PySem.W.Frag} {H : Hp} {vs : List V} {ds : List D} {i : Int} {d : D} (r : Reps K H vs ds) (h : atI ds i = some d) : ∃ v, atI vs i = some v ∧ Rep K H v d := by
  unfold atI at h ⊢
  rw [r.length]
  obtain ⟨j, e1, e2⟩ := Option.bind_eq_some_iff.mp h
  obtain ⟨v, e3, rv⟩ := r.get e2
  exact ⟨v, by rw [e1]; exact e3, rv⟩
theorem ofO_ok {α : Type} {o : Option α} {a : α} (h : ofO o = .ok a) : o = some a := by
  cases o with
  | none => cases h
  | some b => cases h; rfl
def rSub (K : PySem.W.Frag) : R2 := fun x y H Q => ∃ d e c, Nw K H x d ∧ Nw K H y e ∧ subD d e = .ok c ∧ ∀ v, Rep K H v c → Q v H
theorem ix_sub : IxR X (rSub X.K) := by
  intro value slice pins s σ H x y v u Q I rx ry h hs
  obtain ⟨d, e, c, hd, he, hc, q⟩ := h
  cases d <;> try cases hc
  · cases e <;> try cases hc
    obtain ⟨a, xs, rfl, ha, r⟩ := nw_tup hd
    obtain rfl := nw_int he
    obtain ⟨w, e1, rw'⟩ := atI_reps r (ofO_ok hc)
    exact ix_tup value slice pins s σ H _ _ v u Q I rx ry ⟨a, xs, _, w, rfl, rfl, ha, e1, q w rw'⟩ hs
  · cases e <;> try cases hc
    obtain ⟨a, xs, rfl, ha, r⟩ := nw_lst hd
    obtain rfl := nw_int he
    obtain ⟨w, e1, rw'⟩ := atI_reps r (ofO_ok hc)
    exact ix_list value slice pins s σ H _ _ v u Q I rx ry ⟨a, xs, _, w, rfl, rfl, ha.sq, e1, q w rw'⟩ hs
theorem peSub {P : Tb} {G : List D} {pos : Pos} {a b : Expr} {x y : Ex} (ha : PE X a (tE X.K P G x)) (hb : PE X b (tE X.K P G y)) (hq : isB x = false ∨ quiet y = true) (hs : noSlice b = true) : PE X (.Subscript a b pos) (tE X.K P G (.sub x y)) := by
  refine peImp (pe_ix ix_sub ha hb (plainIx_of hs)) fun σ H Q h => ?_
  obtain ⟨en, φ, ok, d, en', he, q⟩ := h
  unfold ev at he
  obtain ⟨⟨d1, e1⟩, f1, he1⟩ := Res.bind_ok he
  obtain ⟨⟨d2, e2⟩, f2, he2⟩ := Res.bind_ok he1
  obtain ⟨c, f3, he3⟩ := Res.bind_ok he2
  cases he3
  refine ⟨en, φ, ok, d1, e1, f1, fun v H1 ok1 ev1 v1 => ⟨e1, φ, ok1, d2, _, f2, fun w H2 ok2 ev2 v2 => ?_⟩⟩
  obtain ⟨n1, n2⟩ := pair_nw (v1 := v) (v2 := w) (H1 := H1) hq f1 f2 ok2 (v1.mono ev2.fz) v2
  exact ⟨d1, d2, d, n1, n2, f3, fun u r => q u H2 ok2 (ev1.trans' ev2) r⟩
theorem cut_reps {K : PySem.W.Frag} {H : Hp} {vs : List V} {ds : List D} (r : Reps K H vs ds) (lo hi : Option Int) : Reps K H (cutV vs lo hi) (cutD ds lo hi) := by
  unfold cutV cutD
  rw [r.length]
  exact (r.drop _).take _
def rSli (K : PySem.W.Frag) : V → Option Int → Option Int → Hp → VK → Prop := fun x lo hi H Q => ∃ d c, Nw K H x d ∧ sliceD d lo hi = .ok c ∧ ∀ v H', ValO K H H' v c → Same H H' → Q v H'
end
end Vi

/-! Vi, part 10: slices, built-in functions, calls of defs. -/
namespace Vi
open PySem PySem.Spec PyProof.Rows
open L2
variable [Wx]

section
variable {X : Cx}
theorem sl_any : SlR X (fun x lo hi H Q => ∃ d c, Nw X.K H x d ∧ sliceD d lo hi = .ok c ∧ ∀ v H', Rep X.K H' v c → Same H H' → Q v H') := by
  intro pins s σ H x v vl vu lo hi sl Q I rx hs pl pu h
  obtain ⟨d, c, hd, hc, q⟩ := h
  cases d <;> try cases hc
  · obtain ⟨a, xs, rfl, ha, r⟩ := nw_tup hd
    refine sl_tupA pins s σ H _ v vl vu lo hi sl Q I rx hs pl pu ⟨a, xs, rfl, ha, fun z => ?_, fun z p hp => ?_⟩
    · have e : cutV xs lo hi = xs := by
        unfold cutV
        rw [z.1, z.2]
        simp
      have r2 := cut_reps r lo hi
      rw [e] at r2
      exact q _ _ (.tup ha r2) (.refl H)
    · exact q _ _ (rep_newT hp (cut_reps r lo hi)) (same_upd hp)
  · obtain ⟨a, xs, rfl, ha, r⟩ := nw_lst hd
    obtain ⟨T, id, h1, h2, h3⟩ := sl_list pins s σ H _ v vl vu lo hi sl (fun v H1 => ValO X.K H H1 v (.lst (cutD _ lo hi)) ∧ Same H H1) I rx hs pl pu ⟨a, xs, rfl, ha.sq, fun p hp => ⟨valO_lst hp (cut_reps r lo hi), same_upd hp⟩⟩
    exact ⟨T, id, h1, h2, thn h3 fun u s' z => ep_fz z q⟩
/-- a bound of a slice -/
def bound (P : Tb) (G : List D) (X : Cx) : Ex → Option Expr → Prop
  | .nop, none => True
  | x, some e => isB x = false ∧ isNop x = false ∧ PE X e (tE X.K P G x)
  | _, none => False
theorem po_of {P : Tb} {G : List D} {x : Ex} {o : Option Expr} (h : bound P G X x o) :
    ∃ t, PO X o t ∧ ∀ σ H en φ d en' oi Q, EnvOk X.K H σ en φ → ev P G x en = .ok (d, en') → optI (isNop x) d = .ok oi → (∀ H', EnvOk X.K H' σ en' φ → Evo H (Own φ) H' → Q oi H') → t σ H Q := by
  cases o with
  | none =>
    cases x <;> first
      | exact h.elim
      | (refine ⟨_, po_none, fun σ H en φ d en' oi Q ok he ho q => ?_⟩
         cases he
         cases ho
         exact q H ok .refl)
  | some e =>
    have h : isB x = false ∧ isNop x = false ∧ PE X e (tE X.K P G x) := by cases x <;> exact h
    obtain ⟨hx, h2, h1⟩ := h
    refine ⟨_, po_some h1, fun σ H en φ d en' oi Q ok he ho q => ⟨en, φ, ok, d, en', he, fun v H' ok' ev' vv => ?_⟩⟩
    have r := val_rep hx vv
    rw [h2] at ho
    cases d <;> try cases ho
    cases r
    exact ⟨_, rfl, q H' ok' ev'⟩
theorem peSlice {P : Tb} {G : List D} {pos p2 : Pos} {a : Expr} {x l u : Ex} {lo hi : Option Expr} (ha : PE X a (tE X.K P G x)) (hl : bound P G X l lo) (hu : bound P G X u hi) (hq : isB x = false ∨ (quiet l = true ∧ quiet u = true)) :
    PE X (.Subscript a (.Slice lo hi none p2) pos) (tE X.K P G (.slice x l u)) := by
  obtain ⟨tl, pl, ql⟩ := po_of hl
  obtain ⟨th, ph, qh⟩ := po_of hu
  refine peImp (pe_slice sl_any ha pl ph) fun σ H Q h => ?_
  obtain ⟨en, φ, ok, d, en', he, q⟩ := h
  unfold ev at he
  obtain ⟨⟨d1, e1⟩, f1, he1⟩ := Res.bind_ok he
  obtain ⟨⟨d2, e2⟩, f2, he2⟩ := Res.bind_ok he1
  obtain ⟨⟨d3, e3⟩, f3, he3⟩ := Res.bind_ok he2
  obtain ⟨o1, f4, he4⟩ := Res.bind_ok he3
  obtain ⟨o2, f5, he5⟩ := Res.bind_ok he4
  obtain ⟨c, f6, he6⟩ := Res.bind_ok he5
  cases he6
  refine ⟨en, φ, ok, d1, e1, f1, fun v H1 ok1 ev1 v1 => ql σ H1 e1 φ d2 e2 o1 _ ok1 f2 f4 fun H2 ok2 ev2 => qh σ H2 e2 φ d3 _ o2 _ ok2 f3 f5 fun H3 ok3 ev3 => ?_⟩
  have n1 : Nw X.K H3 v d1 := by
    rcases hq with hq | ⟨q1, q2⟩
    · exact (((val_rep hq v1).mono ev2.fz).mono ev3.fz).nw
    · have w1 : e2 = e1 := evQuiet l _ _ _ q1 f2
      have w2 : e3 = e2 := evQuiet u _ _ _ q2 f3
      rw [w2, w1] at ok3
      exact val_nw ok3 ((v1.mono ev2.fz).mono ev3.fz) f1
  exact ⟨d1, d, n1, f6, fun w H4 r sm => q w H4 (ok3.mono sm) (((ev1.trans' ev2).trans' ev3).trans' (.of sm)) r⟩
/-! built-in functions -/
inductive Nws (K : PySem.W.Frag) (H : Hp) : List V → List D → Prop where
  | nil : Nws K H [] []
  | cons {v : V} {vs : List V} {d : D} {ds : List D} : Nw K H v d → Nws K H vs ds → Nws K H (v :: vs) (d :: ds)
theorem nws1 {K : PySem.W.Frag} {H : Hp} {vs : List V} {d : D} (h : Nws K H vs [d]) : ∃ v, vs = [v] ∧ Nw K H v d := by
  cases h with
  | cons a t => cases t; exact ⟨_, rfl, a⟩
theorem nws2 {K : PySem.W.Frag} {H : Hp} {vs : List V} {d e : D} (h : Nws K H vs [d, e]) : ∃ v w, vs = [v, w] ∧ Nw K H v d ∧ Nw K H w e := by
  cases h with
  | cons a t =>
    obtain ⟨w, rfl, b⟩ := nws1 t
    exact ⟨_, _, rfl, a, b⟩
/-- the function's own name in Python, and the value that it is -/
def bfName : BF → String
  | .len => "len" | .abs => "abs" | .int => "int" | .bool => "bool" | .list => "list" | .tuple => "tuple" | .all => "all" | .any => "any"
  | .sum => "sum" | .sorted => "sorted" | .min1 => "min" | .max1 => "max" | .min2 => "min" | .max2 => "max"
def bfVal : BF → Value
  | .int => .type "int" | .bool => .type "bool" | .list => .type "list" | .tuple => .type "tuple"
  | f => .builtin (bfName f)
def rC (K : PySem.W.Frag) (f : BF) : List V → Hp → VK → Prop := fun vs H Q => ∃ ds c, Nws K H vs ds ∧ bfn f ds = .ok c ∧ ∀ v H', ValO K H H' v c → Same H H' → Q v H'
theorem mostI_spec {ns : List Int} {k m : Int} (h : mostI ns = some k) (h1 : m ∈ ns) (h2 : ∀ y ∈ ns, y ≤ m) : k = m := by
  cases ns with
  | nil => cases h
  | cons x r =>
    have key : ∀ (r : List Int) (x : Int), (∀ y ∈ x :: r, y ≤ r.foldl (fun m y => if m < y then y else m) x) ∧ r.foldl (fun m y => if m < y then y else m) x ∈ x :: r := by
      intro r
      induction r with
      | nil => intro x; simp
      | cons z r ih =>
        intro x
        rw [List.foldl_cons]
        obtain ⟨i1, i2⟩ := ih (if x < z then z else x)
        constructor
        · intro y hy
          have b := i1 (if x < z then z else x) List.mem_cons_self
          rcases List.mem_cons.mp hy with rfl | hy
          · exact Int.le_trans (by split <;> omega) b
          · rcases List.mem_cons.mp hy with rfl | hy
            · exact Int.le_trans (by split <;> omega) b
            · exact i1 y (List.mem_cons_of_mem _ hy)
        · rcases List.mem_cons.mp i2 with e | e
          · rw [e]
            split
            · exact List.mem_cons_of_mem _ List.mem_cons_self
            · exact List.mem_cons_self
          · exact List.mem_cons_of_mem _ (List.mem_cons_of_mem _ e)
    obtain ⟨k1, k2⟩ := key r x
    cases h
    have a := k1 m h1
    have b := h2 _ k2
    omega
theorem leastI_spec {ns : List Int} {k m : Int} (h : leastI ns = some k) (h1 : m ∈ ns) (h2 : ∀ y ∈ ns, m ≤ y) : k = m := by
  cases ns with
  | nil => cases h
  | cons x r =>
    have key : ∀ (r : List Int) (x : Int), (∀ y ∈ x :: r, r.foldl (fun m y => if y < m then y else m) x ≤ y) ∧ r.foldl (fun m y => if y < m then y else m) x ∈ x :: r := by
      intro r
      induction r with
      | nil => intro x; simp
      | cons z r ih =>
        intro x
        rw [List.foldl_cons]
        obtain ⟨i1, i2⟩ := ih (if z < x then z else x)
        constructor
        · intro y hy
          have b := i1 (if z < x then z else x) List.mem_cons_self
          rcases List.mem_cons.mp hy with rfl | hy
          · exact Int.le_trans b (by split <;> omega)
          · rcases List.mem_cons.mp hy with rfl | hy
            · exact Int.le_trans b (by split <;> omega)
            · exact i1 y (List.mem_cons_of_mem _ hy)
        · rcases List.mem_cons.mp i2 with e | e
          · rw [e]
            split
            · exact List.mem_cons_of_mem _ List.mem_cons_self
            · exact List.mem_cons_self
          · exact List.mem_cons_of_mem _ (List.mem_cons_of_mem _ e)
    obtain ⟨k1, k2⟩ := key r x
    cases h
    have a := k1 m h1
    have b := h2 _ k2
    omega
theorem key_rep {K : PySem.W.Frag} {H : Hp} (k : Key) : Rep K H (kV k) (dK k) := by
  cases k with
  | inl i => exact .int i
  | inr x => exact .str x
theorem keys_reps {K : PySem.W.Frag} {H : Hp} : ∀ kvs : List (Key × V), Reps K H (kvs.map fun kv => kV kv.1) (kvs.map fun kv => dK kv.1)
  | [] => .nil
  | kv :: kvs => .cons (key_rep kv.1) (keys_reps kvs)
theorem bfn1 {f : BF} {ds : List D} {c : D} (h : bfn f ds = .ok c) (h2 : f ≠ .min2) (h3 : f ≠ .max2) : ∃ d, ds = [d] := by
  match ds, h with
  | [d], _ => exact ⟨d, rfl⟩
  | [], h => cases f <;> simp [bfn] at h
  | a :: b :: r, h => cases f <;> first | exact (h2 rfl).elim | exact (h3 rfl).elim | (simp [bfn] at h)
theorem sum_rawT {prog : Program} {w : World} {A : Around} {E : Value → Shared → Prop} {s : Shared} {l : Addr} {its : List Value} {ns : List Int} {Q : Value → Shared → Prop} (hh : A.handled = none) (hl : s.heap.IsTuple l its.toArray) (hi : IntsAre its ns)
    (h : ∀ h' tk t', (∀ b o, s.heap.get? b = some o → h'.get? b = some o) → Q (.int ns.sum t') { s with heap := h', toks := tk }) : wpAny (model prog w) A (call (.builtin "sum") [.ref l]) Q E s := by
  obtain ⟨xs, e⟩ := hi.allInts.items
  have hn : numsOf (intItems xs).toList = ns := by rw [← e]; exact hi.numsOf
  rw [nums_intItems] at hn
  rw [e] at hl
  refine W.ktm_sumG hh hl fun h' tk t' hk => ?_
  have := h h' tk t' hk
  rw [preSum_eq, List.take_of_length_le (by simp), hn]; exact this
theorem cr_bfn (hc : X.calm = true) (f : BF) (hs : f ≠ .sorted) (hs1 : f ≠ .min1) (hs2 : f ≠ .max1) : CallR X (bfVal f) (rC X.K f) := by
  intro pins s σ H vs us Q I r h
  obtain ⟨ds, c, hn, hb, q⟩ := h
  cases f with
  | sorted => exact absurd rfl hs
  | len =>
    obtain ⟨d, rfl⟩ := bfn1 hb (by decide) (by decide)
    obtain ⟨v, rfl, n1⟩ := nws1 hn
    cases d <;> try cases hb
    · obtain ⟨a, xs, rfl, ha, ra⟩ := nw_tup n1
      refine call_len_seq pins s σ H _ us Q I r ⟨a, xs, rfl, .inr ha, ?_⟩
      rw [ra.length]
      exact ofD q (.int _)
    · obtain ⟨a, xs, rfl, ha, ra⟩ := nw_lst n1
      refine call_len_seq pins s σ H _ us Q I r ⟨a, xs, rfl, .inl ha.sq, ?_⟩
      rw [ra.length]
      exact ofD q (.int _)
    · obtain ⟨a, kvs, rfl, ha, hk, ra⟩ := n1
      obtain rfl := Vals.ref1 r
      refine d_len I ha fun t s' I' => ⟨.int kvs.length, H, I', ⟨t, rfl⟩, ?_⟩
      have z := ofD q (.int _)
      rw [hk, List.length_map] at z
      exact z
  | abs =>
    obtain ⟨d, rfl⟩ := bfn1 hb (by decide) (by decide)
    obtain ⟨v, rfl, n1⟩ := nws1 hn
    cases d <;> cases hb
    obtain rfl := nw_int n1
    exact call_abs pins s σ H _ us Q I r ⟨_, rfl, ofD q (.int _)⟩
  | int =>
    obtain ⟨d, rfl⟩ := bfn1 hb (by decide) (by decide)
    obtain ⟨v, rfl, n1⟩ := nws1 hn
    cases d <;> cases hb
    · obtain rfl := nw_bl n1
      exact call_int1 pins s σ H _ us Q I r (.inr ⟨_, rfl, ofD q (.int _)⟩)
    · obtain rfl := nw_int n1
      exact call_int1 pins s σ H _ us Q I r (.inl ⟨_, rfl, ofD q (.int _)⟩)
  | bool =>
    obtain ⟨d, rfl⟩ := bfn1 hb (by decide) (by decide)
    obtain ⟨v, rfl, n1⟩ := nws1 hn
    cases d <;> cases hb
    obtain rfl := nw_bl n1
    exact call_bool1 pins s σ H _ us Q I r (.inr ⟨_, rfl, ofD q (.bl _)⟩)
  | list =>
    obtain ⟨d, rfl⟩ := bfn1 hb (by decide) (by decide)
    obtain ⟨v, rfl, n1⟩ := nws1 hn
    cases d <;> cases hb
    · obtain ⟨a, xs, rfl, ha, ra⟩ := nw_tup n1
      exact call_list_of pins s σ H _ us Q I r ⟨a, xs, rfl, .inr ha, fun p hp => q _ _ (valO_lst hp ra) (same_upd hp)⟩
    · obtain ⟨a, xs, rfl, ha, ra⟩ := nw_lst n1
      exact call_list_of pins s σ H _ us Q I r ⟨a, xs, rfl, .inl ha.sq, fun p hp => q _ _ (valO_lst hp ra) (same_upd hp)⟩
    · obtain ⟨a, kvs, rfl, ha, hk, ra⟩ := n1
      exact call_listD hc pins s σ H _ us Q I r ⟨a, kvs, rfl, ha, fun p hp => q _ _ (valO_lst hp (by rw [hk]; exact keys_reps kvs)) (same_upd hp)⟩
  | tuple =>
    obtain ⟨d, rfl⟩ := bfn1 hb (by decide) (by decide)
    obtain ⟨v, rfl, n1⟩ := nws1 hn
    cases d <;> cases hb
    · obtain ⟨a, xs, rfl, ha, ra⟩ := nw_tup n1
      exact call_tuple_of pins s σ H _ us Q I r ⟨a, xs, rfl, .inr ⟨ha, ofD q (.tup ha ra)⟩⟩
    · obtain ⟨a, xs, rfl, ha, ra⟩ := nw_lst n1
      exact call_tuple_of pins s σ H _ us Q I r ⟨a, xs, rfl, .inl ⟨ha.sq, fun p hp => q _ _ (rep_newT hp ra) (same_upd hp)⟩⟩
  | all =>
    obtain ⟨d, rfl⟩ := bfn1 hb (by decide) (by decide)
    obtain ⟨v, rfl, n1⟩ := nws1 hn
    cases d <;> try cases hb
    rename_i es
    obtain ⟨bs, e1, e2⟩ := Res.bind_ok (show (blsD es >>= fun z => pure (.bl (z.all id))) = .ok c from hb)
    cases e2
    obtain ⟨a, xs, rfl, ha, ra⟩ := nw_lst n1
    have e3 := reps_bls ra e1
    subst e3
    exact cr_all hc pins s σ H _ us Q I r ⟨a, bs, rfl, ha.sq, ofD q (.bl _)⟩
  | any =>
    obtain ⟨d, rfl⟩ := bfn1 hb (by decide) (by decide)
    obtain ⟨v, rfl, n1⟩ := nws1 hn
    cases d <;> try cases hb
    rename_i es
    obtain ⟨bs, e1, e2⟩ := Res.bind_ok (show (blsD es >>= fun z => pure (.bl (z.any id))) = .ok c from hb)
    cases e2
    obtain ⟨a, xs, rfl, ha, ra⟩ := nw_lst n1
    have e3 := reps_bls ra e1
    subst e3
    exact cr_any hc pins s σ H _ us Q I r ⟨a, bs, rfl, ha.sq, ofD q (.bl _)⟩
  | sum =>
    obtain ⟨d, rfl⟩ := bfn1 hb (by decide) (by decide)
    obtain ⟨v, rfl, n1⟩ := nws1 hn
    cases d <;> try cases hb
    · rename_i es
      obtain ⟨bs, e1, e2⟩ := Res.bind_ok (show (intsD es >>= fun z => pure (.int z.sum)) = .ok c from hb)
      cases e2
      obtain ⟨a, xs, rfl, ha, ra⟩ := nw_tup n1
      have e3 := reps_ints ra e1
      subst e3
      obtain ⟨its, rv, ht, hz⟩ := I.tuple ha
      rw [Vals.ref1 r]
      exact sum_rawT (I.ok.hd hc) ht rv.ints fun h' tk t' hk => ⟨.int _, H, I.kept hk, ⟨_, rfl⟩, ofD q (.int _)⟩
    · rename_i es
      obtain ⟨bs, e1, e2⟩ := Res.bind_ok (show (intsD es >>= fun z => pure (.int z.sum)) = .ok c from hb)
      cases e2
      obtain ⟨a, xs, rfl, ha, ra⟩ := nw_lst n1
      have e3 := reps_ints ra e1
      subst e3
      exact cr_sum hc pins s σ H _ us Q I r ⟨a, bs, rfl, ha.sq, ofD q (.int _)⟩
  | min1 => exact absurd rfl hs1
  | max1 => exact absurd rfl hs2
  | min2 =>
    match ds, hb, hn with
    | [.int i, .int j], hb, hn =>
      cases hb
      obtain ⟨v, w, rfl, n1, n2⟩ := nws2 hn
      obtain rfl := nw_int n1
      obtain rfl := nw_int n2
      exact call_min2 hc pins s σ H _ us Q I r ⟨_, _, rfl, ofD q (.int _)⟩
  | max2 =>
    match ds, hb, hn with
    | [.int i, .int j], hb, hn =>
      cases hb
      obtain ⟨v, w, rfl, n1, n2⟩ := nws2 hn
      obtain rfl := nw_int n1
      obtain rfl := nw_int n2
      exact call_max2 hc pins s σ H _ us Q I r ⟨_, _, rfl, ofD q (.int _)⟩
end
end Vi

/-! Vi, part 11: calls of built-ins and of defs, what is walked, comprehensions. -/
namespace Vi
open PySem PySem.Spec PyProof.Rows
open L2
variable [Wx]

theorem boot_bf (f : BF) : bootBuiltins (Str.ofString (bfName f)) = some (bfVal f) := by cases f <;> decide +kernel
theorem bfName_ne (f : BF) : (Str.ofString (bfName f)) ≠ ("__name__" : Str) ∧ ((Str.ofString (bfName f)) == ("__debug__" : Str)) = false := by cases f <;> decide +kernel
theorem reps_nws {K : PySem.W.Frag} {H : Hp} : ∀ {vs : List V} {ds : List D}, Reps K H vs ds → Nws K H vs ds
  | _, _, .nil => .nil
  | _, _, .cons a r => .cons a.nw (reps_nws r)
section
variable {X : Cx} {P : Tb} {G : List D} {pos : Pos}
theorem vls_nws {σ : L2.St} {H : Hp} {φ : Fp} : ∀ {vs : List V} {ds : List D} {xs : Exs} {en en' : En}, Vls X.K σ H vs ds xs → evs P G xs en = .ok (ds, en') → quietA xs = true → EnvOk X.K H σ en' φ → Nws X.K H vs ds
  | _, _, _, _, _, .nil, _, _, _ => .nil
  | _, _, .cons x xs, en, en', .cons h t, he, hq, ok => by
    unfold evs at he
    unfold quietA at hq
    rw [Bool.and_eq_true] at hq
    obtain ⟨⟨d, e1⟩, f1, he1⟩ := Res.bind_ok he
    obtain ⟨⟨r, e2⟩, f2, he2⟩ := Res.bind_ok he1
    cases he2
    have z : e2 = e1 := evQuietA xs _ _ _ hq.2 f2
    have ok1 : EnvOk X.K H σ e1 φ := z ▸ ok
    exact .cons (val_nw ok1 h f1) (vls_nws t f2 hq.2 ok)
theorem peBltO {f : BF} {e : Expr} {es : List Expr} {xs : Exs} {p : Pos} (hr : CallR X (bfVal f) (rC X.K f)) (hg : Gl X (Str.ofString (bfName f))) (hm : X.mg (Str.ofString (bfName f)) = none) (ha : PA X (e :: es) (tA X.K P G xs)) (hs : (e :: es).all noStar = true) (hq : noB xs = true ∨ quietA xs = true) :
    PE X (.Call (.Name (Str.ofString (bfName f)) p) (e :: es) [] pos) (tO X.K P G (.blt f xs)) := by
  have go : PE X (.Call (.Name (Str.ofString (bfName f)) p) (e :: es) [] pos) (tCB (rC X.K f) (tA X.K P G xs)) := by
    rw [List.all_cons, Bool.and_eq_true] at hs
    have b := boot_bf f
    have n := bfName_ne f
    cases f <;> first
      | exact pe_callB hr hg hm b ha n.1 n.2 (star1 hs.1) (starAny hs.2)
      | exact pe_callTy hr hg hm b ha n.1 n.2 (star1 hs.1) (starAny hs.2)
  refine peImp go fun σ H Q h => ?_
  obtain ⟨en, φ, ok, d, en', he, q⟩ := h
  unfold ev at he
  obtain ⟨⟨ds, e1⟩, f1, he1⟩ := Res.bind_ok he
  obtain ⟨c, f2, he2⟩ := Res.bind_ok he1
  cases he2
  refine ⟨en, φ, ok, ds, e1, f1, fun vs H1 ok1 ev1 v1 => ⟨ds, d, ?_, f2, fun v H2 vo sm => q v H2 (ok1.mono sm) (ev1.trans' (.of sm)) (valO_before ok1 ev1 vo)⟩⟩
  rcases hq with hq | hq
  · exact reps_nws (vls_reps v1 hq)
  · exact vls_nws v1 f1 hq ok1
/-! isinstance -/
def tyN : Ty → String
  | .int => "int" | .bool => "bool" | .str => "str" | .list => "list" | .tuple => "tuple" | .dict => "dict"
def tyOf : D → String
  | .non => "NoneType" | .bl _ => "bool" | .int _ => "int" | .str _ => "str" | .tup _ => "tuple" | _ => "list"
theorem tyX_of {K : PySem.W.Frag} {H : Hp} {v : V} {d : D} {b : Bool} {ty : Ty} (h : Nw K H v d) (hb : isiD ty d = .ok b) : TyX K H v (.type (tyOf d)) := by
  cases d with
  | non => cases h; exact .base .non
  | bl c => cases h; exact .base (.bl c)
  | int i => cases h; exact .base (.int i)
  | str x => cases h; exact .base (.str x)
  | tup ds =>
    obtain ⟨a, xs, rfl, ha, _⟩ := nw_tup h
    rcases ha with (ha | ⟨o, ha⟩) | ⟨o, its, n, hk, hc, _⟩
    · exact .base (.tup ha)
    · exact .fTuple ha
    · exact .kTuple hk hc
  | lst ds =>
    obtain ⟨a, xs, rfl, ha, _⟩ := nw_lst h
    rcases ha with ha | ⟨o, ha⟩ | ⟨its, n, hk, _⟩
    · exact .base (.lst ha)
    · exact .base (.frz ha)
    · exact .kList hk rfl
  | dic ks vs => cases ty <;> cases hb
  | set xs => cases ty <;> cases hb
  | obj c xs => cases ty <;> cases hb
  | clo l xs => cases ty <;> cases hb
theorem kit_of {K : PySem.W.Frag} {d : D} {ty : Ty} {b : Bool} (hb : isiD ty d = .ok b) : PySem.W.kitOne K (.type (tyOf d)) (.type (tyN ty)) = some b := by
  cases d <;> cases ty <;> cases hb <;> (refine kit_ty ?_; dsimp only [tyOf, tyN]; decide +kernel)
theorem boot_ty (t : Ty) : bootBuiltins (Str.ofString (tyN t)) = some (.type (tyN t)) := by cases t <;> decide +kernel
theorem tyN_ne (f : Ty) : (Str.ofString (tyN f)) ≠ ("__name__" : Str) ∧ ((Str.ofString (tyN f)) == ("__debug__" : Str)) = false := by cases f <;> decide +kernel
theorem boot_isi : bootBuiltins "isinstance" = some (.builtin "isinstance") := by decide +kernel
theorem peIsi {e : Expr} {x : Ex} {ty : Ty} {p p2 : Pos} (he : PE X e (tE X.K P G x)) (hs : noStar e = true) (h1 : Gl X "isinstance") (h2 : X.mg "isinstance" = none) (h3 : Gl X (Str.ofString (tyN ty))) (h4 : X.mg (Str.ofString (tyN ty)) = none) :
    PE X (.Call (.Name "isinstance" p) [e, .Name (Str.ofString (tyN ty)) p2] [] pos) (tE X.K P G (.isi x ty)) := by
  have hn := tyN_ne ty
  have hty : PE X (.Name (Str.ofString (tyN ty)) p2) (tC (.ty (tyN ty))) := pe_bltn h3 h4 (boot_ty ty) rfl hn.1 hn.2
  refine peImp (pe_callB call_isi h1 h2 boot_isi (pa_cons he (pa_cons hty pa_nil) (star1 hs)) (by decide) (by decide) (star1 hs)) fun σ H Q h => ?_
  obtain ⟨en, φ, ok, d, en', he, q⟩ := h
  unfold ev at he
  obtain ⟨⟨d1, e1⟩, f1, he1⟩ := Res.bind_ok he
  obtain ⟨c, f2, he2⟩ := Res.bind_ok he1
  cases he2
  refine ⟨en, φ, ok, d1, e1, f1, fun v H1 ok1 ev1 v1 => ?_⟩
  have n := val_nw ok1 v1 f1
  exact ⟨v, .ty (tyN ty), .type (tyOf d1), .type (tyN ty), c, rfl, .ty _, tyX_of n f2, kit_of f2, q _ H1 ok1 ev1 (.bl c)⟩
end
end Vi

/-! Vi, part 12: calls of defs. -/
namespace Vi
open PySem PySem.Spec PyProof.Rows
open L2
variable [Wx]

def putSl : List Slot → List (List D) → List Slot
  | .ow _ :: sl, o :: os => .ow o :: putSl sl os
  | .ow x :: sl, [] => .ow x :: putSl sl []
  | .no :: sl, os => .no :: putSl sl os
  | .fz d :: sl, os => .fz d :: putSl sl os
  | .om d :: sl, os => .om d :: putSl sl os
  | .od k d :: sl, os => .od k d :: putSl sl os
  | .slf c :: sl, os => .slf c :: putSl sl os
  | [], _ => []
def ows : List Slot → Nat
  | [] => 0
  | .ow _ :: sl => ows sl + 1
  | _ :: sl => ows sl
/-- what a def gives: a new list for the caller's own, or data; or the object that it makes stands -/
def RetV (o : Rk) (K : PySem.W.Frag) (H H' : Hp) (vs : List V) (v : V) (d : D) : Prop := match o with
  | .ow => ValO K H H' v d
  | .dat => Rep K H' v d
  | .ini => v = .non ∧ ∃ p, vs[0]? = some (.ref p) ∧ Rep K H' (.ref p) d
theorem passX {X : Cx} : Passes (CX X.prog X.w) X E0 := fun pins σ H s e s' I c => passes_call takes_none5 (fun _ _ _ _ h => h.elim) pins σ H s e s' I c
def spF (K : PySem.W.Frag) (P : Tb) (f n : Nat) (o : Rk) : Sp := fun vs H Q E => vs.length = n ∧ ∃ sl ψ, EnvOk K H (vs.map some) sl ψ ∧ ((∃ d os, P f sl = .ok (d, os) ∧
  ∀ v H', RetV o K H H' vs v d → (o ≠ .ini → EnvOk K H' (vs.map some) (putSl sl os) ψ) → Evo H (Own ψ) H' → Q v H') ∨ ∃ c p, P f sl = .exc c p ∧ ∀ cls d H', ExcAt K H' cls d c p → Evo H (Own ψ) H' → E cls d H')
def lentOk : List (Option Nat) → Bool
  | [] => true
  | none :: r => lentOk r
  | some i :: r => !r.contains (some i) && lentOk r
theorem lentOk_inj : ∀ {ls : List (Option Nat)} {k l i : Nat}, lentOk ls = true → ls[k]? = some (some i) → ls[l]? = some (some i) → k = l
  | [], k, l, i, _, h, _ => by simp at h
  | a :: r, 0, 0, i, _, _, _ => rfl
  | a :: r, 0, l + 1, i, h, h1, h2 => by
    have e : a = some i := Option.some.inj h1
    subst e
    unfold lentOk at h
    rw [Bool.and_eq_true] at h
    have m : some i ∈ r := List.mem_of_getElem? (i := l) h2
    have c : r.contains (some i) = true := by simpa using m
    rw [c] at h
    cases h.1
  | a :: r, k + 1, 0, i, h, h1, h2 => by
    have e : a = some i := Option.some.inj h2
    subst e
    unfold lentOk at h
    rw [Bool.and_eq_true] at h
    have m : some i ∈ r := List.mem_of_getElem? (i := k) h1
    have c : r.contains (some i) = true := by simpa using m
    rw [c] at h
    cases h.1
  | a :: r, k + 1, l + 1, i, h, h1, h2 => by
    have h' : lentOk r = true := by
      cases a with
      | none => exact h
      | some j => unfold lentOk at h; rw [Bool.and_eq_true] at h; exact h.2
    exact congrArg (· + 1) (lentOk_inj h' (by simpa using h1) (by simpa using h2))
theorem putBack_out : ∀ (ls : List (Option Nat)) (os : List (List D)) (en : En) (j : Nat), (some j) ∉ ls → getS (putBack ls os en) j = getS en j
  | [], os, en, j, _ => by unfold putBack; rfl
  | none :: ls, os, en, j, h => by
    unfold putBack
    exact putBack_out ls os en j fun z => h (List.mem_cons_of_mem _ z)
  | some i :: ls, [], en, j, h => by unfold putBack; rfl
  | some i :: ls, o :: os, en, j, h => by
    unfold putBack
    rw [putBack_out ls os _ j fun z => h (List.mem_cons_of_mem _ z), getS_set, if_neg]
    rintro ⟨rfl, _⟩
    exact h List.mem_cons_self
theorem putBack_len : ∀ (ls : List (Option Nat)) (os : List (List D)) (en : En), (putBack ls os en).length = en.length
  | [], os, en => by unfold putBack; rfl
  | none :: ls, os, en => by unfold putBack; exact putBack_len ls os en
  | some i :: ls, [], en => by unfold putBack; rfl
  | some i :: ls, o :: os, en => by unfold putBack; rw [putBack_len, List.length_set]
theorem put_get : ∀ (ls : List (Option Nat)) (ds : List D) (sl : List Slot) (os : List (List D)) (en0 en : En) (j k : Nat), argsOf en0 ls ds = some sl → lentOk ls = true → os.length = ows sl → j < en.length → ls[k]? = some (some j) →
    getS (putBack ls os en) j = getS (putSl sl os) k
  | [], ds, sl, os, en0, en, j, k, _, _, _, _, h => by simp at h
  | none :: ls, [], sl, os, en0, en, j, k, h, _, _, _, _ => by cases h
  | none :: ls, d :: ds, sl, os, en0, en, j, k, h, h1, h2, h3, h4 => by
    unfold argsOf at h
    obtain ⟨sl', e1, e2⟩ := Option.map_eq_some_iff.mp h
    subst e2
    cases k with
    | zero => cases h4
    | succ k =>
      have q := put_get ls ds sl' os en0 en j k e1 h1 h2 h3 (by simpa using h4)
      unfold putBack putSl
      rw [q]
      rfl
  | some i :: ls, [], sl, os, en0, en, j, k, h, _, _, _, _ => by cases h
  | some i :: ls, d :: ds, sl, os, en0, en, j, k, h, h1, h2, h3, h4 => by
    unfold argsOf at h
    split at h
    · rename_i xs r e1 e2
      cases h
      unfold lentOk at h1
      rw [Bool.and_eq_true] at h1
      cases os with
      | nil => cases h2
      | cons o os =>
        unfold putBack putSl
        cases k with
        | zero =>
          have e : i = j := by simpa using h4
          subst e
          have ni : (some i) ∉ ls := fun z => by
            have c : ls.contains (some i) = true := by simpa using z
            rw [c] at h1
            cases h1.1
          have hs : getS (en.set i (.ow o)) i = .ow o := by rw [getS_set, if_pos (And.intro rfl h3)]
          rw [putBack_out ls os _ i ni, hs]
          rfl
        | succ k =>
          have q := put_get ls ds r os en0 (en.set i (.ow o)) j k e2 h1.2 (by simpa [ows] using h2) (by rw [List.length_set]; exact h3) (by simpa using h4)
          rw [q]
          rfl
    · cases h
/-- where the arguments that are lent lie -/
def lentFp (ls : List (Option Nat)) (φ : Fp) : Fp := fun k => match ls[k]? with
  | some (some i) => φ i
  | _ => []
theorem lentFp_at {ls : List (Option Nat)} {φ : Fp} {k i : Nat} (h : ls[k]? = some (some i)) : lentFp ls φ k = φ i := by unfold lentFp; rw [h]
theorem lentFp_mem {ls : List (Option Nat)} {φ : Fp} {k : Nat} {a : Addr} (h : a ∈ lentFp ls φ k) : ∃ i, ls[k]? = some (some i) ∧ a ∈ φ i := by
  unfold lentFp at h
  split at h
  · rename_i i e
    exact ⟨i, e, h⟩
  · cases h
theorem args_slot {K : PySem.W.Frag} {H : Hp} {σ : L2.St} {en : En} {φ : Fp} (ok : EnvOk K H σ en φ) : ∀ {vs : List V} {ds : List D} {xs : Exs} {sl : List Slot}, Vls K σ H vs ds xs → argsOf en (lentAt xs) ds = some sl →
    sl.length = vs.length ∧ ∀ k, SlotOk K H (vs.map some)[k]? (getS sl k) (lentFp (lentAt xs) φ k)
  | _, _, _, sl, .nil, h => by
    cases h
    exact ⟨rfl, fun k => by simp [lentAt, getS, SlotOk, lentFp]⟩
  | _, _, _, sl, .cons (v := v) (d := d) (x := x) (xs := xs) hv t, h => by
    by_cases hx : isB x = true
    · cases x with
      | bvar i =>
        have h : argsOf en (some i :: lentAt xs) (d :: _) = some sl := h
        unfold argsOf at h
        split at h
        · rename_i ys r e1 e2
          cases h
          obtain ⟨l1, l2⟩ := args_slot ok t e2
          refine ⟨by rw [List.length_cons, List.length_cons, l1], fun k => ?_⟩
          cases k with
          | zero =>
            have q := ok.slot i
            rw [e1] at q
            have hv : σ[i]? = some (some v) := hv
            rw [hv] at q
            exact q
          | succ k => exact l2 k
        · cases h
      | _ => cases hx
    · have hx : isB x = false := by simpa using hx
      have e : lentAt (.cons x xs) = none :: lentAt xs := by cases x <;> first | rfl | cases hx
      rw [e] at h ⊢
      unfold argsOf at h
      obtain ⟨sl', e1, e2⟩ := Option.map_eq_some_iff.mp h
      subst e2
      obtain ⟨l1, l2⟩ := args_slot ok t e1
      refine ⟨by rw [List.length_cons, List.length_cons, l1], fun k => ?_⟩
      cases k with
      | zero => exact ⟨⟨v, rfl, val_rep hx hv⟩, rfl⟩
      | succ k => exact l2 k
theorem lent_val {K : PySem.W.Frag} {H : Hp} {σ : L2.St} : ∀ {vs : List V} {ds : List D} {xs : Exs} {k i : Nat}, Vls K σ H vs ds xs → (lentAt xs)[k]? = some (some i) → ∃ v, vs[k]? = some v ∧ σ[i]? = some (some v)
  | _, _, _, k, i, .nil, h => by simp [lentAt] at h
  | _, _, _, k, i, .cons (v := v) (x := x) (xs := xs) hv t, h => by
    cases k with
    | zero =>
      cases x <;> first
        | (cases h; exact ⟨v, rfl, hv⟩)
        | cases h
    | succ k =>
      have h' : (lentAt xs)[k]? = some (some i) := by cases x <;> exact h
      obtain ⟨w, e1, e2⟩ := lent_val t h'
      exact ⟨w, by simpa using e1, e2⟩
section
variable {X : Cx} {P : Tb} {G : List D} {pos p : Pos}
/-- what a call of a def asks and gives, the arguments read -/
theorem call_coreX {k : Nat} {f n : Nat} {xs : Exs} {σ : L2.St} {H : Hp} {Q : VK} {E : XK} {o : Rk} (ho : o ≠ .ini) (hP : ∀ sl r, P f sl = .ok r → sl.length = n ∧ r.2.length = ows sl) (hE : ∀ sl c p, P f sl = .exc c p → sl.length = n) (hl : lentOk (lentAt xs) = true) {en e1 : En} {φ : Fp} {ds : List D} {sl : List Slot}
    (ok : EnvOk X.K H σ en φ) (f1 : evs P G xs en = .ok (ds, e1)) (f2 : argsOf e1 (lentAt xs) ds = some sl)
    (h : (∃ d os, P f sl = .ok (d, os) ∧ ∀ v H', EnvOk X.K H' σ (putBack (lentAt xs) os e1) φ → Evo H (Own φ) H' → RetV o X.K H H' [] v d → Q v H') ∨ ∃ c p, P f sl = .exc c p ∧ ∀ cls d H', ExcAt X.K H' cls d c p → Evo H (Own φ) H' → E cls d H') :
    tCall (spF X.K P f n o) [] E (tA X.K P G xs) σ H Q := by
  refine ⟨en, φ, ok, ds, e1, f1, fun vs H1 ok1 ev1 v1 => ?_⟩
  show spF X.K P f n o (vs ++ []) H1 Q E
  rw [List.append_nil]
  obtain ⟨l1, l2⟩ := args_slot ok1 v1 f2
  have hn : sl.length = n := by
    rcases h with ⟨d, os, f3, _⟩ | ⟨c, p, f3, _⟩
    · exact (hP sl _ f3).1
    · exact hE sl c p f3
  have sub : ∀ a, Own (lentFp (lentAt xs) φ) a → Own φ a := fun a ⟨k, hk⟩ => by
    obtain ⟨i, _, m⟩ := lentFp_mem hk
    exact ⟨i, m⟩
  refine ⟨by rw [← l1]; exact hn, sl, lentFp (lentAt xs) φ, ⟨by rw [List.length_map, l1], l2, fun k l a hk hl' => ?_, ok1.tb⟩, ?_⟩
  · obtain ⟨i, e1, m1⟩ := lentFp_mem hk
    obtain ⟨j, e2, m2⟩ := lentFp_mem hl'
    have := ok1.dis i j a m1 m2
    subst this
    exact lentOk_inj hl e1 e2
  · rcases h with ⟨d, os, f3, q⟩ | ⟨c, p, f3, q⟩
    · refine .inl ⟨d, os, f3, fun v H2 r ok2 ev2 => ?_⟩
      have ok2 := ok2 ho
      have n2 := (hP sl _ f3).2
      refine q v H2 ⟨by rw [putBack_len]; exact ok1.len, fun j => ?_, ok1.dis, ev2.tb ok1.tb⟩ (ev1.trans' (ev2.sub sub)) (by
        cases o with
        | ow => exact valO_before ok1 ev1 r
        | dat => exact r
        | ini => exact absurd rfl ho)
      by_cases hj : (some j) ∈ lentAt xs
      · obtain ⟨k, hk, ek⟩ := List.getElem_of_mem hj
        have ek' : (lentAt xs)[k]? = some (some j) := by rw [List.getElem?_eq_getElem hk, ek]
        obtain ⟨w, w1, w2⟩ := lent_val v1 ek'
        have hjl : j < e1.length := by
          rw [← ok1.len]
          exact (List.getElem?_eq_some_iff.mp w2).1
        show SlotOk X.K H2 σ[j]? (getS (putBack (lentAt xs) os e1) j) (φ j)
        rw [put_get (lentAt xs) ds sl os e1 e1 j k f2 hl n2 hjl ek']
        have z := ok2.slot k
        rw [lentFp_at ek', List.getElem?_map, w1] at z
        rw [w2]
        exact z
      · show SlotOk X.K H2 σ[j]? (getS (putBack (lentAt xs) os e1) j) (φ j)
        rw [putBack_out _ _ _ _ hj]
        refine slotOk_mono (ok1.slot j) ev2.fz fun a ha u i e => ev2.keep a u (fun ⟨k, hk⟩ => ?_) (ow_nT i) e
        obtain ⟨i, e3, m⟩ := lentFp_mem hk
        have := ok1.dis i j a m ha
        subst this
        exact hj (List.mem_of_getElem? e3)
    · exact .inr ⟨c, p, f3, fun cls d H' x ev2 => q cls d H' x (ev1.trans' (ev2.sub sub))⟩
theorem call_core {k : Nat} {f n : Nat} {xs : Exs} {σ : L2.St} {H : Hp} {Q : VK} {E : XK} {o : Rk} (ho : o ≠ .ini) (hP : ∀ sl r, P f sl = .ok r → sl.length = n ∧ r.2.length = ows sl) (hE : ∀ sl c p, P f sl = .exc c p → sl.length = n) (hl : lentOk (lentAt xs) = true)
    (h : ∃ en φ, EnvOk X.K H σ en φ ∧ ∃ d en', ev P G (.call f xs) en = .ok (d, en') ∧ ∀ v H', EnvOk X.K H' σ en' φ → Evo H (Own φ) H' → RetV o X.K H H' [] v d → Q v H') :
    tCall (spF X.K P f n o) [] E (tA X.K P G xs) σ H Q := by
  obtain ⟨en, φ, ok, d, en', he, q⟩ := h
  unfold ev at he
  obtain ⟨⟨ds, e1⟩, f1, he1⟩ := Res.bind_ok he
  obtain ⟨sl, f2, he2⟩ := Res.bind_ok he1
  obtain ⟨⟨c, os⟩, f3, he3⟩ := Res.bind_ok he2
  cases he3
  exact call_coreX (k := k) ho hP hE hl ok f1 (ofO_ok f2) (.inl ⟨_, os, f3, q⟩)
theorem peCall {k f n : Nat} {nm : Str} {a : Addr} {fd : FuncData} {ps : List Str} {e : Expr} {es : List Expr} {xs : Exs} (F : FnOk X.prog X.w X.K X.mg X.base (CX X.prog X.w) k a fd ps (spF X.K P f n .dat)) (hr : Room k X.A) (hg : Gl X nm) (hm : X.mg nm = some (.ref a)) (hk : PySem.W.keepIn X.K (.ref a) = true)
    (hb : Binds X.K fd ps []) (hP : ∀ sl r, P f sl = .ok r → sl.length = n ∧ r.2.length = ows sl) (hE : ∀ sl c p, P f sl = .exc c p → sl.length = n) (hl : lentOk (lentAt xs) = true) (hs : (e :: es).all noStar = true) (hd : (nm == ("__debug__" : Str)) = false) (ha : PA X (e :: es) (tA X.K P G xs)) :
    PE X (.Call (.Name nm p) (e :: es) [] pos) (tE X.K P G (.call f xs)) := by
  rw [List.all_cons, Bool.and_eq_true] at hs
  exact peImp (pe_call F hr hg hm hk hb .nil passX ha hd (star1 hs.1) (starAny hs.2)) fun σ H Q h => call_core (k := k) (o := .dat) (by decide) hP hE hl h
theorem peCallO {k f n : Nat} {nm : Str} {a : Addr} {fd : FuncData} {ps : List Str} {e : Expr} {es : List Expr} {xs : Exs} (F : FnOk X.prog X.w X.K X.mg X.base (CX X.prog X.w) k a fd ps (spF X.K P f n .ow)) (hr : Room k X.A) (hg : Gl X nm) (hm : X.mg nm = some (.ref a)) (hk : PySem.W.keepIn X.K (.ref a) = true)
    (hb : Binds X.K fd ps []) (hP : ∀ sl r, P f sl = .ok r → sl.length = n ∧ r.2.length = ows sl) (hE : ∀ sl c p, P f sl = .exc c p → sl.length = n) (hl : lentOk (lentAt xs) = true) (hs : (e :: es).all noStar = true) (hd : (nm == ("__debug__" : Str)) = false) (ha : PA X (e :: es) (tA X.K P G xs)) :
    PE X (.Call (.Name nm p) (e :: es) [] pos) (tO X.K P G (.call f xs)) := by
  rw [List.all_cons, Bool.and_eq_true] at hs
  exact peImp (pe_call F hr hg hm hk hb .nil passX ha hd (star1 hs.1) (starAny hs.2)) fun σ H Q h => call_core (k := k) (o := .ow) (by decide) hP hE hl h
theorem peCall0 {k f n : Nat} {nm : Str} {a : Addr} {fd : FuncData} {ps : List Str} (F : FnOk X.prog X.w X.K X.mg X.base (CX X.prog X.w) k a fd ps (spF X.K P f n .dat)) (hr : Room k X.A) (hg : Gl X nm) (hm : X.mg nm = some (.ref a)) (hk : PySem.W.keepIn X.K (.ref a) = true)
    (hb : Binds X.K fd ps []) (hP : ∀ sl r, P f sl = .ok r → sl.length = n ∧ r.2.length = ows sl) (hE : ∀ sl c p, P f sl = .exc c p → sl.length = n) (hd : (nm == ("__debug__" : Str)) = false) :
    PE X (.Call (.Name nm p) [] [] pos) (tE X.K P G (.call f .nil)) := by
  refine peImp (pe_call0 F hr hg hm hk hb .nil passX hd) fun σ H Q h => ?_
  obtain ⟨en, φ, ok, ds, en', he, q⟩ := call_core (E := E0) (k := k) (o := .dat) (by decide) hP hE rfl h
  cases he
  exact q [] H ok .refl .nil
theorem peCall0O {k f n : Nat} {nm : Str} {a : Addr} {fd : FuncData} {ps : List Str} (F : FnOk X.prog X.w X.K X.mg X.base (CX X.prog X.w) k a fd ps (spF X.K P f n .ow)) (hr : Room k X.A) (hg : Gl X nm) (hm : X.mg nm = some (.ref a)) (hk : PySem.W.keepIn X.K (.ref a) = true)
    (hb : Binds X.K fd ps []) (hP : ∀ sl r, P f sl = .ok r → sl.length = n ∧ r.2.length = ows sl) (hE : ∀ sl c p, P f sl = .exc c p → sl.length = n) (hd : (nm == ("__debug__" : Str)) = false) :
    PE X (.Call (.Name nm p) [] [] pos) (tO X.K P G (.call f .nil)) := by
  refine peImp (pe_call0 F hr hg hm hk hb .nil passX hd) fun σ H Q h => ?_
  obtain ⟨en, φ, ok, ds, en', he, q⟩ := call_core (E := E0) (k := k) (o := .ow) (by decide) hP hE rfl h
  cases he
  exact q [] H ok .refl .nil
end
end Vi

/-! Vi, part 12o: objects: fields, methods, making. -/
namespace Vi
open PySem PySem.Spec PyProof.Rows
open L2
variable [Wx]

/-- no super() -/
def noSup : Expr → Bool
  | .Call (.Name _ _) [] [] _ => false
  | _ => true
theorem base_of {o : Expr} {f : Str} {env : Env} {w : Sem Value} (h : noSup o = true) : attributeBase o f env w = w := by
  unfold attributeBase
  split
  · cases h
  · rfl
theorem star_all {env : Env} {pos : Pos} : ∀ {es : List Expr}, es.all noStar = true → (backTo pos (starEach es env)).all (fun a => !a.1) = true
  | [], _ => rfl
  | e :: es, h => by
    rw [List.all_cons, Bool.and_eq_true] at h
    rw [star1 h.1]
    exact star_all (es := es) h.2
theorem eval_meth {o : Expr} {m : Str} {apos pos : Pos} {es : List Expr} {env : Env} (h1 : noSup o = true) (h2 : es.all noStar = true) (h3 : es.length < 30) (h4 : (apos.endLine == pos.line) = true) :
    eval (.Call (.Attribute o m apos) es [] pos) env = (do
      let ov ← eval o env
      standAt apos.atName
      let (f, first) ← holding [ov] (getMethod ov m (do return (← importBound o env).getD true))
      callWith pos f first (backTo pos (starEach es env)) (backToKw pos (keywordEach [] env))) := by
  have e1 : eval (.Call (.Attribute o m apos) es [] pos) env = (do
      let ov ← attributeBase o m env (eval o env)
      standAt apos.atName
      methodCall o m apos pos env ov (es.length + 0) (backTo pos (starEach es env)) (backToKw pos (keywordEach [] env))) := rfl
  rw [e1, base_of h1]
  have few : methodCallForm (es.length + 0) (backTo pos (starEach es env)) (backToKw pos (keywordEach [] env)) = true := by
    unfold methodCallForm
    rw [star_all h2]
    have : (decide (es.length + 0 + 0 < 30)) = true := decide_eq_true (by omega)
    simpa [backToKw, keywordEach] using this
  unfold methodCall calleeOf methodCallPos
  rw [few, h4]
  rfl
theorem lookup_at : ∀ {fs : List (Str × V)} {ns : List Str} {k : Nat} {f : Str}, fs.map (·.1) = ns → ns.Nodup → ns[k]? = some f → ∃ v, fs.lookup f = some v ∧ (fs.map (·.2))[k]? = some v
  | [], ns, k, f, e, hn, hk => by subst e; simp at hk
  | (g, v) :: fs, ns, k, f, e, hn, hk => by
    subst e
    rw [List.map_cons, List.nodup_cons] at hn
    cases k with
    | zero =>
      have : g = f := by simpa using hk
      subst this
      exact ⟨v, by simp [List.lookup], rfl⟩
    | succ k =>
      have hk' : (fs.map (·.1))[k]? = some f := by simpa using hk
      obtain ⟨w, h1, h2⟩ := lookup_at (ns := fs.map (·.1)) rfl hn.2 hk'
      have ne : (f == g) = false := by
        rw [beq_eq_false_iff_ne]
        rintro rfl
        exact hn.1 (List.mem_of_getElem? hk')
      exact ⟨w, by simp [List.lookup, ne, h1], by simpa using h2⟩
theorem lookup_no : ∀ {fs : List (Str × V)} {ns : List Str} {f : Str}, fs.map (·.1) = ns → f ∉ ns → fs.lookup f = none
  | [], ns, f, _, _ => rfl
  | (g, v) :: fs, ns, f, e, hn => by
    subst e
    rw [List.map_cons, List.mem_cons, not_or] at hn
    have ne : (f == g) = false := by rw [beq_eq_false_iff_ne]; exact hn.1
    simp only [List.lookup, ne]
    exact lookup_no rfl hn.2
theorem fldD_ok {c k : Nat} {d c' : D} (h : fldD c k d = .ok c') : ∃ ds, d = .obj c ds ∧ ds[k]? = some c' := by
  cases d <;> try (simp [fldD] at h; done)
  rename_i c2 ds
  simp only [fldD] at h
  split at h
  · rename_i e
    subst e
    exact ⟨ds, rfl, ofO_ok h⟩
  · cases h
section
variable {X : Cx} {P : Tb} {G : List D} {pos : Pos}
theorem rep_obj {K : PySem.W.Frag} {H : Hp} {v : V} {c : Nat} {ds : List D} (h : Rep K H v (.obj c ds)) : ∃ a C dx fs ns, v = .ref a ∧ Wx.cls c = some (C, ns) ∧ H a = some (.ins C dx fs) ∧ fs.map (·.1) = ns ∧ Reps K H (fs.map (·.2)) ds := by
  cases h with
  | obj a b n k r => exact ⟨_, _, _, _, _, rfl, a, b, k, r⟩
theorem peFld {c k : Nat} {C : Addr} {ns : List Str} {f : Str} {e : Expr} {x : Ex} (hc : Wx.cls c = some (C, ns)) (hn : ns.Nodup) (hk : ns[k]? = some f) (cl : Cls X.K C) (na : NoAttr X.K C f) (he : PE X e (tE X.K P G x)) (hx : isB x = false) (hs : noSup e = true) :
    PE X (.Attribute e f pos) (tE X.K P G (.fld c k x)) := by
  refine peImp (pe_fld he (base_of hs)) fun σ H Q h => ?_
  obtain ⟨en, φ, ok, d, en', he, q⟩ := h
  unfold ev at he
  obtain ⟨⟨d1, e1⟩, f1, he1⟩ := Res.bind_ok he
  obtain ⟨r, f2, he2⟩ := Res.bind_ok he1
  cases he2
  obtain ⟨ds, rfl, hd⟩ := fldD_ok f2
  refine ⟨en, φ, ok, _, e1, f1, fun v H1 ok1 ev1 v1 => ?_⟩
  obtain ⟨a, C', dx, fs, ns', rfl, hc', ha, hf, rr⟩ := rep_obj (val_rep hx v1)
  rw [hc] at hc'
  cases hc'
  obtain ⟨w, h1, h2⟩ := lookup_at hf hn hk
  obtain ⟨d2, g1, g2⟩ := rr.getV h2
  rw [hd] at g1
  cases g1
  exact ⟨a, C, dx, fs, w, rfl, ha, cl, na, h1, q w H1 ok1 ev1 g2⟩
theorem peIsC {c : Nat} {C : Addr} {ns : List Str} {cn : Str} {e : Expr} {x : Ex} {p p2 : Pos} (hc : Wx.cls c = some (C, ns)) (ic : C8.InsC X.K C) (he : PE X e (tE X.K P G x)) (hx : isB x = false) (hs : noStar e = true) (h1 : Gl X "isinstance") (h2 : X.mg "isinstance" = none) (h3 : Gl X cn) (h4 : X.mg cn = some (.ref C)) (h5 : (cn == ("__debug__" : Str)) = false) :
    PE X (.Call (.Name "isinstance" p) [e, .Name cn p2] [] pos) (tE X.K P G (.isc c x)) := by
  have hty : PE X (.Name cn p2) (tC (.ref C)) := pe_glob h3 h4 rfl h5
  refine peImp (pe_callB (C8.call_isC ic) h1 h2 boot_isi (pa_cons he (pa_cons hty pa_nil) (star1 hs)) (by decide) (by decide) (star1 hs)) fun σ H Q h => ?_
  obtain ⟨en, φ, ok, d, en', he, q⟩ := h
  unfold ev at he
  obtain ⟨⟨d1, e1⟩, f1, he1⟩ := Res.bind_ok he
  obtain ⟨b, f2, he2⟩ := Res.bind_ok he1
  cases he2
  cases d1 <;> try (simp [iscD] at f2; done)
  rename_i c2 ds
  simp only [iscD] at f2
  split at f2
  · rename_i e2
    subst e2
    cases f2
    refine ⟨en, φ, ok, _, e1, f1, fun v H1 ok1 ev1 v1 => ?_⟩
    obtain ⟨a, C', dx, fs, ns', rfl, hc', ha, hf, rr⟩ := rep_obj (val_rep hx v1)
    rw [hc] at hc'
    cases hc'
    exact ⟨a, dx, fs, rfl, ha, q _ H1 ok1 ev1 (.bl true)⟩
  · cases f2
theorem fz_slots {K : PySem.W.Frag} {H : Hp} : ∀ {vs : List V} {ds : List D}, Reps K H vs ds → ∀ j, SlotOk K H (vs.map some)[j]? (getS (ds.map .fz) j) []
  | _, _, .nil, j => by simp [getS, SlotOk]
  | _, _, .cons r t, j => by
    cases j with
    | zero => exact ⟨⟨_, rfl, r⟩, rfl⟩
    | succ j =>
      have := fz_slots t j
      simpa [getS] using this
def noFp : Fp := fun _ => []
theorem noFp_own (a : Addr) : ¬ Own noFp a := fun ⟨_, h⟩ => nomatch h
theorem env_fz {K : PySem.W.Frag} {H : Hp} {vs : List V} {ds : List D} (r : Reps K H vs ds) (tb : LamX.Tabs Wx.tabs H) : EnvOk K H (vs.map some) (ds.map .fz) noFp :=
  ⟨by simp [r.length], fun j => fz_slots r j, fun _ _ _ h => (nomatch h), tb⟩
/-- C(..): how a making reads -/
theorem make_core {k c f n : Nat} {C : Addr} {ns : List Str} {xs : Exs} {σ : L2.St} {H : Hp} {Q : VK} {E : XK} (hc : Wx.cls c = some (C, ns)) (hP : ∀ sl r, P f sl = .ok r → sl.length = n ∧ r.2.length = ows sl) (hb : noB xs = true) (h : tE X.K P G (.make c f xs) σ H Q) :
    tMake C (spF X.K P f n .ini) [] E (tA X.K P G xs) σ H Q := by
  obtain ⟨en, φ, ok, d, en', he, q⟩ := h
  unfold ev at he
  obtain ⟨⟨ds, e1⟩, f1, he1⟩ := Res.bind_ok he
  obtain ⟨⟨d2, os⟩, f2, he2⟩ := Res.bind_ok he1
  cases he2
  refine ⟨en, φ, ok, ds, e1, f1, fun vs H1 ok1 ev1 v1 => ?_⟩
  intro x dx hx hdx hne
  have r := vls_reps v1 hb
  have sm : Same H1 (upd (upd H1 dx (.own x)) x (.ins C dx [])) := fun b o e => by
    rw [upd_ne (fun z => by rw [z, hx] at e; cases e), upd_ne (fun z => by rw [z, hdx] at e; cases e)]
    exact e
  have no : ¬ Own φ x := fun z => by
    obtain ⟨u, e, _⟩ := ok1.own z
    rw [hx] at e; cases e
  rw [List.append_nil]
  obtain ⟨n1, n2⟩ := hP _ _ f2
  refine ⟨by rw [← n1]; simp [r.length], .slf c :: ds.map .fz, fun j => if j = 0 then [x] else [], ⟨by simp [r.length], fun j => ?_, fun i j a hi hj => ?_, tabs_same ok1.tb sm⟩, Or.inl ⟨d2, os, f2, fun v H2 rv _ ev2 => ?_⟩⟩
  · cases j with
    | zero => exact ⟨x, C, dx, ns, rfl, hc, upd_same, rfl⟩
    | succ j => exact fz_slots (r.mono (.of sm)) j
  · replace hi : a ∈ (if i = 0 then [x] else []) := hi
    replace hj : a ∈ (if j = 0 then [x] else []) := hj
    split at hi
    · split at hj
      · omega
      · cases hj
    · cases hi
  · obtain ⟨rfl, p, hp, rp⟩ := rv
    cases hp
    have own : ∀ a, Own (fun j => if j = 0 then [x] else []) a → a = x := fun a ⟨j, hj⟩ => by
      replace hj : a ∈ (if j = 0 then [x] else []) := hj
      split at hj
      · exact List.mem_singleton.mp hj
      · cases hj
    have ok2 := ok1.mono sm
    refine ⟨rfl, q _ H2 ⟨ok2.len, fun j => slotOk_mono (ok2.slot j) ev2.fz fun a ha u i e => ev2.keep a u (fun z => no (by rw [← own a z]; exact ⟨j, ha⟩)) (ow_nT i) e, ok2.dis, ev2.tb ok2.tb⟩ ⟨fun a o na k e => ?_, (ev1.fz.trans (.of sm)).trans ev2.fz, fun t => ev2.tb (tabs_same (ev1.tb t) sm)⟩ rp⟩
    · have e1 := ev1.keep a o na k e
      exact ev2.keep a o (fun z => by rw [own a z, hx] at e1; cases e1) k (sm a o e1)

theorem peMake {k c f n : Nat} {C fI : Addr} {ns ps : List Str} {fd : FuncData} {cn : Str} {p : Pos} {e : Expr} {es : List Expr} {xs : Exs} (hc : Wx.cls c = some (C, ns)) (M : Mk X.K C fI) (F : FnOk X.prog X.w X.K X.mg X.base (CX X.prog X.w) k fI fd ps (spF X.K P f n .ini)) (hr : Room (k + 1) X.A) (hg : Gl X cn) (hm : X.mg cn = some (.ref C))
    (hb : Binds X.K fd ps []) (hP : ∀ sl r, P f sl = .ok r → sl.length = n ∧ r.2.length = ows sl) (hB : noB xs = true) (hs : (e :: es).all noStar = true) (hd : (cn == ("__debug__" : Str)) = false) (ha : PA X (e :: es) (tA X.K P G xs)) :
    PE X (.Call (.Name cn p) (e :: es) [] pos) (tE X.K P G (.make c f xs)) := by
  rw [List.all_cons, Bool.and_eq_true] at hs
  exact peImp (pe_make M F hr hg hm hb .nil passX ha hd (star1 hs.1) (starAny hs.2)) fun σ H Q h => make_core (k := k) hc hP hB h
/-- what a method's call asks, its receiver and arguments read -/
theorem meth_core {c f n : Nat} {C : Addr} {ns : List Str} {m : Str} {x : Ex} {xs : Exs} {σ : L2.St} {H : Hp} {Q : VK} {E : XK} {o : Rk} (ho : o ≠ .ini) (hc : Wx.cls c = some (C, ns)) (hm : m ∉ ns) (hP : ∀ sl r, P f sl = .ok r → sl.length = n ∧ r.2.length = ows sl) (hx : isB x = false) (hb : noB xs = true)
    (h : ∃ en φ, EnvOk X.K H σ en φ ∧ ∃ d en', ev P G (.meth c f (.cons x xs)) en = .ok (d, en') ∧ ∀ v H', EnvOk X.K H' σ en' φ → Evo H (Own φ) H' → RetV o X.K H H' [] v d → Q v H') :
    tMeth C m (spF X.K P f n o) [] E (tE X.K P G x) (tA X.K P G xs) σ H Q := by
  obtain ⟨en, φ, ok, d, en', he, q⟩ := h
  unfold ev at he
  obtain ⟨⟨ds0, e2⟩, f0, he1⟩ := Res.bind_ok he
  unfold evs at f0
  obtain ⟨⟨d1, e1⟩, f1, f0⟩ := Res.bind_ok f0
  obtain ⟨⟨ds, e2'⟩, f2, f0⟩ := Res.bind_ok f0
  cases f0
  dsimp only at he1
  split at he1
  · rename_i hO
    obtain ⟨⟨c2, os⟩, f3, he3⟩ := Res.bind_ok he1
    cases he3
    obtain ⟨c', os1, rfl⟩ : ∃ c' os1, d1 = .obj c' os1 := by
      cases d1 with
      | obj c' os1 => exact ⟨c', os1, rfl⟩
      | _ => simp [isObj] at hO
    have hO : c' = c := of_decide_eq_true hO
    subst hO
    refine ⟨en, φ, ok, _, e1, f1, fun v H1 ok1 ev1 v1 => ?_⟩
    obtain ⟨a, C', dx, fs, ns', rfl, hc', hA, hf, rr⟩ := rep_obj (val_rep hx v1)
    rw [hc] at hc'
    cases hc'
    refine ⟨a, dx, fs, rfl, hA, lookup_no hf hm, e1, φ, ok1, ds, _, f2, fun vs H2 ok2 ev2 v2 => ?_⟩
    show spF X.K P f n o (.ref a :: (vs ++ [])) H2 Q E
    rw [List.append_nil]
    have r : Reps X.K H2 (.ref a :: vs) (.obj c' os1 :: ds) := .cons ((val_rep hx v1).mono ev2.fz) (vls_reps v2 hb)
    obtain ⟨n1, n2⟩ := hP _ _ f3
    refine ⟨by rw [← n1]; simpa using (vls_reps v2 hb).length, _, noFp, env_fz r ok2.tb, Or.inl ⟨c2, os, f3, fun w H3 rv _ ev3 => ?_⟩⟩
    have ev12 := ev1.trans' ev2
    refine q w H3 ⟨ok2.len, fun j => slotOk_mono (ok2.slot j) ev3.fz fun b _ u i e => ev3.keep b u (noFp_own b) (ow_nT i) e, ok2.dis, ev3.tb ok2.tb⟩ (ev12.trans' (ev3.sub fun b z => absurd z (noFp_own b))) ?_
    cases o with
    | dat => exact rv
    | ow => exact valO_before ok2 ev12 rv
    | ini => exact absurd rfl ho
  · cases he1
theorem tE_mono {x : Ex} {σ : L2.St} {H : Hp} {Q Q' : VK} (h : tE X.K P G x σ H Q) (i : ∀ v H1, Q v H1 → Q' v H1) : tE X.K P G x σ H Q' := by
  obtain ⟨en, φ, ok, d, en', he, q⟩ := h
  exact ⟨en, φ, ok, d, en', he, fun v H1 a b c => i _ _ (q v H1 a b c)⟩
theorem peMeth0 {k c f n : Nat} {C fa : Addr} {ns ps : List Str} {fd : FuncData} {m : Str} {apos : Pos} {o : Expr} {x : Ex} (hc : Wx.cls c = some (C, ns)) (hm : m ∉ ns) (cl : Cls X.K C) (M : Meth X.K C m fa) (F : FnOk X.prog X.w X.K X.mg X.base (CX X.prog X.w) k fa fd ps (spF X.K P f n .dat)) (hr : Room k X.A) (hb : Binds X.K fd ps [])
    (hP : ∀ sl r, P f sl = .ok r → sl.length = n ∧ r.2.length = ows sl) (hx : isB x = false) (hs : noSup o = true) (hl : (apos.endLine == pos.line) = true) (ho : PE X o (tE X.K P G x)) :
    PE X (.Call (.Attribute o m apos) [] [] pos) (tE X.K P G (.meth c f (.cons x .nil))) := by
  refine peImp (pe_meth0 ho cl M F hr hb .nil passX (eval_meth hs rfl (by decide) hl)) fun σ H Q h => ?_
  have z := meth_core (E := E0) (o := .dat) (by decide) hc hm hP hx rfl h
  refine tE_mono z fun v H1 hq => ?_
  obtain ⟨a, dx, fs, e1, e2, e3, en, φ, ok, ds, en', hev, q⟩ := hq
  cases hev
  exact ⟨a, dx, fs, e1, e2, e3, q [] H1 ok .refl .nil⟩
theorem peMeth {k c f n : Nat} {C fa : Addr} {ns ps : List Str} {fd : FuncData} {m : Str} {apos : Pos} {o e : Expr} {es : List Expr} {x : Ex} {xs : Exs} (hc : Wx.cls c = some (C, ns)) (hm : m ∉ ns) (cl : Cls X.K C) (M : Meth X.K C m fa) (F : FnOk X.prog X.w X.K X.mg X.base (CX X.prog X.w) k fa fd ps (spF X.K P f n .dat)) (hr : Room k X.A) (hb : Binds X.K fd ps [])
    (hP : ∀ sl r, P f sl = .ok r → sl.length = n ∧ r.2.length = ows sl) (hx : isB x = false) (hB : noB xs = true) (hs : noSup o = true) (hl : (apos.endLine == pos.line) = true) (hst : (e :: es).all noStar = true) (hlen : (e :: es).length < 30) (ho : PE X o (tE X.K P G x)) (ha : PA X (e :: es) (tA X.K P G xs)) :
    PE X (.Call (.Attribute o m apos) (e :: es) [] pos) (tE X.K P G (.meth c f (.cons x xs))) := by
  have h2 := hst
  rw [List.all_cons, Bool.and_eq_true] at hst
  exact peImp (pe_meth ho cl M F hr hb .nil passX ha (star1 hst.1) (starAny hst.2) (eval_meth hs h2 hlen hl)) fun σ H Q h => meth_core (o := .dat) (by decide) hc hm hP hx hB h
end
end Vi

/-! Vi, part 12p: further calls of what is built in; items of items. -/
namespace Vi
open PySem PySem.Spec PyProof.Rows
open L2
variable [Wx]
section
variable {X : Cx} {P : Tb} {G : List D} {pos : Pos}
/-! rows[i][j] of lists of one's own -/
theorem atI_ok {α : Type} {xs : List α} {i : Int} {d : α} (h : L2.atI xs i = some d) : ∃ j, L2.ixN xs.length i = some j ∧ xs[j]? = some d := by
  unfold L2.atI at h
  obtain ⟨j, h1, h2⟩ := Option.bind_eq_some_iff.mp h
  exact ⟨j, h1, h2⟩
theorem atI_of {α : Type} {xs : List α} {i : Int} {d : α} {j : Nat} (h : L2.ixN xs.length i = some j) (h2 : xs[j]? = some d) : L2.atI xs i = some d := by
  unfold L2.atI
  rw [h]; exact h2
/-- the lists' own places -/
theorem rws_at {K : PySem.W.Frag} {H : Hp} {bs : List Addr} {rows : List (List D)} {k : Int} {row : List D} (r : RwsOk K H bs rows) (h : L2.atI rows k = some row) : ∃ j b xs, L2.ixN rows.length k = some j ∧ bs[j]? = some b ∧ L2.atI (bs.map V.ref) k = some (.ref b) ∧ H b = some (.lst xs) ∧ Reps K H xs row := by
  obtain ⟨j, h1, h2⟩ := atI_ok h
  obtain ⟨b, xs, h3, h4, h5⟩ := r.get h2
  exact ⟨j, b, xs, h1, h3, atI_of (by rw [List.length_map, r.len]; exact h1) (by rw [List.getElem?_map, h3]; rfl), h4, h5⟩
/-- an item's object, where its index is told -/
def tRow (K : PySem.W.Frag) (P : Tb) (G : List D) (i : Nat) (a : Ex) : TE := fun σ H Q => ∃ en φ, EnvOk K H σ en φ ∧ ∃ rows k row, getS en i = .om rows ∧ ev P G a en = .ok (.int k, en) ∧ L2.atI rows k = some row ∧
  ∀ bs j b xs H', EnvOk K H' σ en φ → Evo H (Own φ) H' → φ i = (σ[i]?.getD none).elim [] (fun v => match v with | .ref a => a :: bs | _ => []) → L2.ixN rows.length k = some j → bs[j]? = some b → RwsOk K H' bs rows → H' b = some (.lst xs) → Reps K H' xs row → Q (.ref b) H'
theorem peRow {y : Str} {py ppos : Pos} {i : Nat} {e : Expr} {a : Ex} (hN : X.N[i]? = some y) (hv : Vis X.env.scope y) (h1 : (y == ("__debug__" : Str)) = false) (h2 : (y == ("__classdict__" : Str)) = false) (he : PE X e (tE X.K P G a)) (ha : isB a = false) (hs : noSlice e = true) :
    PE X (.Subscript (.Name y py) e ppos) (tRow X.K P G i a) := by
  refine peImp (pe_ix ix_list (pe_var hN hv h1 h2) he (plainIx_of hs)) fun σ H Q h => ?_
  obtain ⟨en, φ, ok, rows, k, row, g, hev, hat, q⟩ := h
  obtain ⟨p, bs, e1, e2, r, e3, e4⟩ := ok.om g
  refine ⟨.ref p, e1, en, φ, ok, _, _, hev, fun v H1 ok1 ev1 v1 => ?_⟩
  obtain ⟨p', bs', t1, t2, r1, t3, t4⟩ := ok1.om g
  rw [e1] at t1
  cases t1
  have rv := val_rep ha v1
  cases rv
  obtain ⟨j, b, xs, z1, z2, z3, z4, z5⟩ := rws_at r1 hat
  exact ⟨p, _, k, .ref b, rfl, rfl, .inl (.inl t2), z3, q bs' j b xs H1 ok1 ev1 (by rw [e1]; exact t3) z1 z2 r1 z4 z5⟩
theorem peOm2 {y : Str} {py ppos : Pos} {i : Nat} {e e2 : Expr} {a b : Ex} (hN : X.N[i]? = some y) (hv : Vis X.env.scope y) (h1 : (y == ("__debug__" : Str)) = false) (h2 : (y == ("__classdict__" : Str)) = false) (he : PE X e (tE X.K P G a)) (ha : isB a = false) (hs : noSlice e = true) (hq : quiet a = true)
    (he2 : PE X e2 (tE X.K P G b)) (hb : isB b = false) (hs2 : noSlice e2 = true) (hq2 : quiet b = true) :
    PE X (.Subscript (.Subscript (.Name y py) e ppos) e2 pos) (tE X.K P G (.om2 i a b)) := by
  refine peImp (pe_ix ix_list (peRow (P := P) (G := G) hN hv h1 h2 he ha hs) he2 (plainIx_of hs2)) fun σ H Q h => ?_
  obtain ⟨en, φ, ok, d, en', hev, q⟩ := h
  unfold ev at hev
  obtain ⟨⟨r, e1⟩, f1, he1⟩ := Res.bind_ok hev
  obtain ⟨⟨s, e2'⟩, f2, he2'⟩ := Res.bind_ok he1
  obtain rfl := evQuiet a _ _ _ hq f1
  obtain rfl := evQuiet b _ _ _ hq2 f2
  dsimp only at he2'
  split at he2'
  · rename_i rows k l g
    obtain ⟨row, f3, he3⟩ := Res.bind_ok he2'
    obtain ⟨d', f4, he4⟩ := Res.bind_ok he3
    cases he4
    refine ⟨_, φ, ok, rows, k, row, g, f1, ofO_ok f3, fun bs j b xs H1 ok1 ev1 hφ z1 z2 r1 z4 z5 => ⟨_, φ, ok1, .int l, _, f2, fun v H2 ok2 ev2 v2 => ?_⟩⟩
    have rv := val_rep hb v2
    cases rv
    obtain ⟨p, bs', t1, t2, r2, t3, t4⟩ := ok2.om g
    obtain ⟨j', b', xs', w1, w2, w3, w4, w5⟩ := rws_at r2 (ofO_ok f3)
    have : b' = b := by
      rw [t1] at hφ
      have hφ : φ i = p :: bs := hφ
      rw [t3] at hφ
      cases hφ
      rw [z1] at w1
      cases w1
      rw [z2] at w2
      cases w2
      rfl
    subst this
    obtain ⟨x0, a1, a2⟩ := atI_reps w5 (ofO_ok f4)
    exact ⟨b', xs', l, x0, rfl, rfl, .inl (.inl w4), a1, q x0 H2 ok2 (ev1.trans' ev2) (rep_val rfl a2)⟩
  · cases he2'
theorem evs1' {x : Ex} {en en' : En} {ds : List D} (h : evs P G (.cons x .nil) en = .ok (ds, en')) : ∃ d, ds = [d] ∧ ev P G x en = .ok (d, en') := by
  unfold evs at h
  obtain ⟨⟨d, e1⟩, f1, h1⟩ := Res.bind_ok h
  obtain ⟨⟨r, e2⟩, f2, h2⟩ := Res.bind_ok h1
  cases f2
  cases h2
  exact ⟨d, rfl, f1⟩
/-! xs.pop(0), xs.pop() -/
theorem env_pop {K : PySem.W.Frag} {H : Hp} {σ : L2.St} {en : En} {φ : Fp} {i : Nat} {ds ds' : List D} {a : Addr} {xs xs' : List V} (h : EnvOk K H σ en φ) (e : getS en i = .ow ds) (e1 : σ[i]? = some (some (.ref a))) (e2 : H a = some (.lst xs)) (e3 : φ i = [a]) (r : Reps K H xs' ds') : EnvOk K (upd H a (.lst xs')) σ (en.set i (.ow ds')) φ := by
  have hi : i < en.length := by rw [← h.len]; exact (List.getElem?_eq_some_iff.mp e1).1
  have fz : FzS H (upd H a (.lst xs')) := fzS_upd fun u e f => by rw [e2] at e; cases e; exact f
  refine ⟨by rw [List.length_set]; exact h.len, fun j => ?_, h.dis, tabs_upd h.tb e2 (fun z => z)⟩
  rw [getS_set]
  by_cases z : i = j
  · subst z
    rw [if_pos ⟨rfl, hi⟩]
    exact ⟨a, xs', e1, upd_same, r.mono fz, e3⟩
  · rw [if_neg fun q => z q.1]
    refine slotOk_mono (h.slot j) fz fun b hb u _ eb => (upd_ne fun w => ?_).trans eb
    subst w
    exact z (h.dis i j b (by rw [e3]; exact List.mem_singleton.mpr rfl) hb)
theorem evo_pop {H : Hp} {φ : Fp} {a : Addr} {xs xs' : List V} {i : Nat} (e2 : H a = some (.lst xs)) (e3 : φ i = [a]) : Evo H (Own φ) (upd H a (.lst xs')) :=
  .upd e2 trivial (.inl ⟨i, by rw [e3]; exact List.mem_singleton.mpr rfl⟩) (fzS_upd fun u e f => by rw [e2] at e; cases e; exact f)
theorem reps_drop1 {K : PySem.W.Frag} {H : Hp} : ∀ {vs : List V} {ds : List D}, Reps K H vs ds → Reps K H vs.dropLast ds.dropLast := fun {vs ds} r => by
  rw [List.dropLast_eq_take, List.dropLast_eq_take, r.length]
  exact r.take _
theorem pePopL {y : Str} {py apos : Pos} {i : Nat} (ho : PE X (.Name y py) (tE X.K P G (.bvar i))) (hl : (apos.endLine == pos.line) = true) :
    PE X (.Call (.Attribute (.Name y py) "pop" apos) [] [] pos) (tE X.K P G (.pop i false)) := by
  refine peImp (pe_bm0 PySem.F.plainAttrs_list PySem.F.slot_list_pop PySem.F.type_list_pop mt_pop ho rfl hl) fun σ H Q h => ?_
  obtain ⟨en, φ, ok, d, en', he, q⟩ := h
  unfold ev at he
  split at he
  · rename_i ds g
    rw [if_neg (by decide)] at he
    split at he
    · rename_i d0 hd
      cases he
      refine ⟨en, φ, ok, .lst ds, en, by unfold ev; rw [g], fun w H0 ok0 ev0 v0 => ?_⟩
      have v0 : σ[i]? = some (some w) := v0
      obtain ⟨a, vs, s1, s2, r, s3⟩ := ok0.ow g
      rw [v0] at s1
      cases s1
      obtain ⟨u, hu, ru⟩ := r.get (i := ds.length - 1) (by rw [← List.getLast?_eq_getElem?]; exact hd)
      refine ⟨.inl ⟨rfl, vs, .of s2⟩, a, vs, u, rfl, rfl, s2, by rw [r.length]; exact hu, ?_⟩
      exact q _ _ (env_pop ok0 g v0 s2 s3 (reps_drop1 r)) (ev0.trans' (evo_pop s2 s3)) (rep_val rfl (ru.mono (evo_pop (φ := φ) (i := i) s2 s3).fz))
    · cases he
  · cases he
theorem pePopF {y : Str} {py apos p0 : Pos} {k0 : Nat} {i : Nat} (ho : PE X (.Name y py) (tE X.K P G (.bvar i))) (hl : (apos.endLine == pos.line) = true) :
    PE X (.Call (.Attribute (.Name y py) "pop" apos) [.Constant (.int 0) k0 p0] [] pos) (tE X.K P G (.pop i true)) := by
  refine peImp (pe_bm (X := X) PySem.F.plainAttrs_list PySem.F.slot_list_pop PySem.F.type_list_pop mt_popAt ho (pa_cons (pe_int) pa_nil) rfl rfl hl) fun σ H Q h => ?_
  obtain ⟨en, φ, ok, d, en', he, q⟩ := h
  unfold ev at he
  split at he
  · rename_i ds g
    rw [if_pos rfl] at he
    split at he
    · rename_i d0 r0
      cases he
      refine ⟨en, φ, ok, .lst _, en, by unfold ev; rw [g], fun w H0 ok0 ev0 v0 => ?_⟩
      have v0 : σ[i]? = some (some w) := v0
      obtain ⟨a, vs, s1, s2, r, s3⟩ := ok0.ow g
      rw [v0] at s1
      cases s1
      cases r with
      | cons ru rt =>
        rename_i u us
        refine ⟨.inl ⟨rfl, _, .of s2⟩, a, u :: us, 0, 0, u, rfl, rfl, s2, by decide, by decide, by unfold seqIndex?; simp, rfl, ?_⟩
        exact q _ _ (env_pop ok0 g v0 s2 s3 rt) (ev0.trans' (evo_pop s2 s3)) (rep_val rfl (ru.mono (evo_pop (φ := φ) (i := i) s2 s3).fz))
    · cases he
  · cases he
/-! index, count, list(range(..)) -/
theorem intsD_reps {K : PySem.W.Frag} {H : Hp} : ∀ {ds : List D} {vs : List V} {ns : List Int}, Reps K H vs ds → intsD ds = .ok ns → vs = ns.map V.int := fun r h => reps_ints r h
theorem idxP_ok {p : PyData} {ps : List PyData} {j : Nat} (h : idxP p ps = some j) : ∃ z, ps[j]? = some z ∧ PyData.eqv z p = true ∧ ∀ (m : Nat) (z' : PyData), m < j → ps[m]? = some z' → PyData.eqv z' p = false := by
  unfold idxP at h
  obtain ⟨hj, h1, h2⟩ := List.findIdx?_eq_some_iff_getElem.mp h
  refine ⟨ps[j], List.getElem?_eq_getElem hj, h1, fun m z' hm hz => ?_⟩
  have := h2 m hm
  obtain ⟨hm', e⟩ := List.getElem?_eq_some_iff.mp hz
  rw [← e]
  simpa using this
theorem peIndex {o e : Expr} {x y : Ex} {apos : Pos} (hu : X.A.units + 65 < cLine) (ho : PE X o (tE X.K P G x)) (he : PE X e (tE X.K P G y)) (hq : isB x = false ∨ quiet y = true) (hy : isB y = false) (hs : noSup o = true) (hst : noStar e = true) (hl : (apos.endLine == pos.line) = true) :
    PE X (.Call (.Attribute o "index" apos) [e] [] pos) (tE X.K P G (.prim .index (.cons x (.cons y .nil)))) := by
  refine peImp (pe_bm (X := X) PySem.F.plainAttrs_list PySem.F.slot_list_index PySem.F.type_list_index (mt_indexD hu) ho (pa_cons he pa_nil (star1 hst)) (base_of hs) (by rw [star1 hst]; rfl) hl (star1 hst) rfl) fun σ H Q h => ?_
  obtain ⟨en, φ, ok, d, en', he, q⟩ := h
  unfold ev at he
  obtain ⟨⟨ds0, e2⟩, f0, he1⟩ := Res.bind_ok he
  obtain ⟨c, fp, he2⟩ := Res.bind_ok he1
  cases he2
  unfold evs at f0
  obtain ⟨⟨d1, e1⟩, f1, f0⟩ := Res.bind_ok f0
  obtain ⟨⟨ds, e2'⟩, f2, f0⟩ := Res.bind_ok f0
  cases f0
  obtain ⟨d2, rfl, f3⟩ := evs1' f2
  have key : ∃ xs p ps, d1 = .lst xs ∧ toP d2 = some p ∧ toPs xs = some ps ∧ SeqAt.shaped p = true ∧ SeqAt.shaped (.list ps) = true ∧ ∃ j, idxP p ps = some j ∧ d = .int (j : Nat) := by
    obtain ⟨xs, rfl⟩ : ∃ xs, d1 = .lst xs := by
      cases d1 with
      | lst xs => exact ⟨xs, rfl⟩
      | _ => simp [primD] at fp
    simp only [primD] at fp
    split at fp
    · rename_i p ps e3 e4
      split at fp
      · rename_i e5
        split at fp
        · rename_i j e6
          cases fp
          exact ⟨xs, p, ps, rfl, e3, e4, e5.1, e5.2, j, e6, rfl⟩
        · cases fp
      · cases fp
    · cases fp
  obtain ⟨xs, p, ps, rfl, k1, k2, k3, k4, j, k5, rfl⟩ := key
  obtain ⟨z, z1, z2, z3⟩ := idxP_ok k5
  refine ⟨en, φ, ok, _, e1, f1, fun v H1 ok1 ev1 v1 => ⟨?_, e1, φ, ok1, d2, _, f3, fun w H2 ok2 ev2 v2 => ?_⟩⟩
  · obtain ⟨a, vs, rfl, ha, _⟩ := nw_lst (val_nw ok1 v1 f1)
    exact .inl ⟨rfl, vs, ha.sq⟩
  · obtain ⟨n1, n2⟩ := pair_nw (v1 := v) (v2 := w) (H1 := H1) hq f1 f3 ok2 (v1.mono ev2.fz) v2
    obtain ⟨a, vs, rfl, ha, r⟩ := nw_lst n1
    exact ⟨a, w, p, ps, j, z, rfl, rfl, .lst ha.sq (r.dp k2), n2.dp k1, k4, k3, z1, z2, z3, q _ H2 ok2 (ev1.trans' ev2) (.int _)⟩
theorem peCount {o e : Expr} {x y : Ex} {apos : Pos} (ho : PE X o (tE X.K P G x)) (he : PE X e (tE X.K P G y)) (hq : isB x = false ∨ quiet y = true) (hy : isB y = false) (hs : noSup o = true) (hst : noStar e = true) (hl : (apos.endLine == pos.line) = true) :
    PE X (.Call (.Attribute o "count" apos) [e] [] pos) (tE X.K P G (.prim .count (.cons x (.cons y .nil)))) := by
  refine peImp (pe_bm (X := X) PySem.F.plainAttrs_list PySem.F.slot_list_count PySem.F.type_list_count mt_lcount ho (pa_cons he pa_nil (star1 hst)) (base_of hs) (by rw [star1 hst]; rfl) hl (star1 hst) rfl) fun σ H Q h => ?_
  obtain ⟨en, φ, ok, d, en', he, q⟩ := h
  unfold ev at he
  obtain ⟨⟨ds0, e2⟩, f0, he1⟩ := Res.bind_ok he
  obtain ⟨c, fp, he2⟩ := Res.bind_ok he1
  cases he2
  unfold evs at f0
  obtain ⟨⟨d1, e1⟩, f1, f0⟩ := Res.bind_ok f0
  obtain ⟨⟨ds, e2'⟩, f2, f0⟩ := Res.bind_ok f0
  cases f0
  obtain ⟨d2, rfl, f3⟩ := evs1' f2
  have key : ∃ xs k ns, d1 = .lst xs ∧ d2 = .int k ∧ intsD xs = .ok ns ∧ d = .int (ns.count k : Nat) := by
    obtain ⟨xs, rfl⟩ : ∃ xs, d1 = .lst xs := by
      cases d1 with
      | lst xs => exact ⟨xs, rfl⟩
      | _ => simp [primD] at fp
    obtain ⟨k, rfl⟩ : ∃ k, d2 = .int k := by
      cases d2 with
      | int k => exact ⟨k, rfl⟩
      | _ => simp [primD] at fp
    simp only [primD] at fp
    obtain ⟨ns, e3, e4⟩ := Res.bind_ok fp
    cases e4
    exact ⟨xs, k, ns, rfl, rfl, e3, rfl⟩
  obtain ⟨xs, k, ns, rfl, rfl, k1, rfl⟩ := key
  refine ⟨en, φ, ok, _, e1, f1, fun v H1 ok1 ev1 v1 => ⟨?_, e1, φ, ok1, _, _, f3, fun w H2 ok2 ev2 v2 => ?_⟩⟩
  · obtain ⟨a, vs, rfl, ha, _⟩ := nw_lst (val_nw ok1 v1 f1)
    exact .inl ⟨rfl, vs, ha.sq⟩
  · obtain ⟨n1, n2⟩ := pair_nw (v1 := v) (v2 := w) (H1 := H1) hq f1 f3 ok2 (v1.mono ev2.fz) v2
    obtain ⟨a, vs, rfl, ha, r⟩ := nw_lst n1
    obtain rfl := nw_int n2
    have := reps_ints r k1
    subst this
    exact ⟨a, ns, k, rfl, rfl, ha.sq, q _ H2 ok2 (ev1.trans' ev2) (.int _)⟩
theorem rgV_reps {K : PySem.W.Frag} {H : Hp} (i j : Int) : Reps K H (rgV i j) (rangeD i (j - i).toNat) := by
  unfold rgV rangeD
  induction List.range (j - i).toNat with
  | nil => exact .nil
  | cons a l ih => exact .cons (.int _) ih
theorem peRl1 {a : Expr} {x : Ex} {p p2 q : Pos} (hc : X.calm = true) (hg : Gl X "list") (hm : X.mg "list" = none) (hg2 : Gl X "range") (hm2 : X.mg "range" = none) (ha : PE X a (tE X.K P G x)) (hx : isB x = false) (hs : noStar a = true) :
    PE X (.Call (.Name "list" p) [.Call (.Name "range" p2) [a] [] q] [] pos) (tO X.K P G (.prim .rlist1 (.cons x .nil))) := by
  refine peImp (pe_listRg hc hg hm (prg_1 hg2 hm2 ha (star1 hs)) rfl) fun σ H Q h => ?_
  obtain ⟨en, φ, ok, d, en', he, q⟩ := h
  unfold ev at he
  obtain ⟨⟨ds0, e2⟩, f0, he1⟩ := Res.bind_ok he
  obtain ⟨c, fp, he2⟩ := Res.bind_ok he1
  cases he2
  obtain ⟨d2, rfl, f3⟩ := evs1' f0
  obtain ⟨j, rfl⟩ : ∃ i, d2 = .int i := by
    cases d2 with
    | int k => exact ⟨k, rfl⟩
    | _ => simp [primD] at fp
  simp only [primD] at fp
  split at fp
  · rename_i hj
    cases fp
    refine ⟨en, φ, ok, _, _, f3, fun v H1 ok1 ev1 v1 => ?_⟩
    have rv := val_rep hx v1
    cases rv
    have hb := hj.1
    unfold big62 at hb
    rw [Bool.and_eq_true, decide_eq_true_eq, decide_eq_true_eq] at hb
    have hl := hj.2
    unfold line at hl
    refine ⟨j, rfl, ⟨by decide, by decide, hb.1, hb.2, by omega⟩, fun p hp => ?_⟩
    have sm : Same H1 (upd H1 p (.lst (rgV 0 j))) := same_upd hp
    refine q _ _ (ok1.mono sm) (ev1.trans' (.of sm)) ⟨p, rgV 0 j, rfl, none_before ok1 ev1 (.of hp), upd_same, ?_⟩
    have := rgV_reps (K := X.K) (H := upd H1 p (.lst (rgV 0 j))) 0 j
    rw [show j - 0 = j by omega] at this
    exact this
  · cases fp
theorem peRl2 {a b : Expr} {x y : Ex} {p p2 q : Pos} (hc : X.calm = true) (hg : Gl X "list") (hm : X.mg "list" = none) (hg2 : Gl X "range") (hm2 : X.mg "range" = none) (ha : PE X a (tE X.K P G x)) (hx : isB x = false) (hs : noStar a = true) (hb' : PE X b (tE X.K P G y)) (hy : isB y = false) (hs2 : noStar b = true) :
    PE X (.Call (.Name "list" p) [.Call (.Name "range" p2) [a, b] [] q] [] pos) (tO X.K P G (.prim .rlist2 (.cons x (.cons y .nil)))) := by
  refine peImp (pe_listRg hc hg hm (prg_2 hg2 hm2 ha hb' (star1 hs) (star1 hs2) (by rw [star1 hs2] <;> rfl)) rfl) fun σ H Q h => ?_
  obtain ⟨en, φ, ok, d, en', he, q⟩ := h
  unfold ev at he
  obtain ⟨⟨ds0, e2⟩, f0, he1⟩ := Res.bind_ok he
  obtain ⟨c, fp, he2⟩ := Res.bind_ok he1
  cases he2
  unfold evs at f0
  obtain ⟨⟨d1, e1⟩, f1, f0⟩ := Res.bind_ok f0
  obtain ⟨⟨ds, e2'⟩, f2, f0⟩ := Res.bind_ok f0
  cases f0
  obtain ⟨d2, rfl, f3⟩ := evs1' f2
  obtain ⟨i, rfl⟩ : ∃ i, d1 = .int i := by
    cases d1 with
    | int k => exact ⟨k, rfl⟩
    | _ => simp [primD] at fp
  obtain ⟨j, rfl⟩ : ∃ i, d2 = .int i := by
    cases d2 with
    | int k => exact ⟨k, rfl⟩
    | _ => simp [primD] at fp
  simp only [primD] at fp
  split at fp
  · rename_i hj
    cases fp
    refine ⟨en, φ, ok, _, e1, f1, fun v H1 ok1 ev1 v1 => ⟨e1, φ, ok1, _, _, f3, fun w H2 ok2 ev2 v2 => ?_⟩⟩
    have rv := val_rep hx v1
    cases rv
    have rw' := val_rep hy v2
    cases rw'
    have hb := hj.1
    have hb2 := hj.2.1
    unfold big62 at hb hb2
    rw [Bool.and_eq_true, decide_eq_true_eq, decide_eq_true_eq] at hb hb2
    have hl := hj.2.2
    unfold line at hl
    refine ⟨i, j, rfl, rfl, ⟨hb.1, hb.2, hb2.1, hb2.2, by omega⟩, fun p hp => ?_⟩
    have sm : Same H2 (upd H2 p (.lst (rgV i j))) := same_upd hp
    exact q _ _ (ok2.mono sm) ((ev1.trans' ev2).trans' (.of sm)) ⟨p, rgV i j, rfl, none_before ok1 ev1 (none_before ok2 ev2 (.of hp)), upd_same, rgV_reps i j⟩
  · cases fp
end
end Vi

/-! Vi, part 13: what loops walk; comprehensions. -/
namespace Vi
open PySem PySem.Spec PyProof.Rows
open L2
variable [Wx]

section
variable {X : Cx} {P : Tb} {G : List D} {pos p : Pos} {tg : Expr}
/-- .. and the state is a right one -/
theorem piInv {l : Expr} {wi : TI} (h : PI X tg l wi) : PI X tg l (fun σ H R => wi σ H fun J H1 => (∃ pins s, Inv X pins σ H1 s) → R J H1) := by
  refine ⟨fun pins s σ H R I q => ?_⟩
  refine thn (h.run pins s σ H _ I q) fun v s1 z => thn z fun itv s2 w => ?_
  obtain ⟨it, fp, tn, J, H', e, I2, T, st, f, r⟩ := w
  exact ⟨it, fp, tn, J, H', e, I2, T, st, f, r ⟨pins, s2, I2⟩⟩
theorem piImp {l : Expr} {t t' : TI} (h : PI X tg l t) (i : ∀ σ H R, t' σ H R → t σ H R) : PI X tg l t' := ⟨fun pins s σ H R I q => h.run pins s σ H R I (i σ H R q)⟩
def tI (K : PySem.W.Frag) (P : Tb) (G : List D) (sk : SK) (xs : Exs) : TI := fun σ H R => ∃ en φ, EnvOk K H σ en φ ∧ ∃ ds en' its, evs P G xs en = .ok (ds, en') ∧ srcI sk ds = .ok its ∧
  ∀ J H', EnvOk K H' σ en' φ → Evo H (Own φ) H' → Wlk K J its H' → its.length ≤ line → R J H'
theorem evs1 {x : Ex} {en en' : En} {ds : List D} (h : evs P G (.cons x .nil) en = .ok (ds, en')) : ∃ d, ds = [d] ∧ ev P G x en = .ok (d, en') := by
  unfold evs at h
  obtain ⟨⟨d, e1⟩, f1, h1⟩ := Res.bind_ok h
  obtain ⟨⟨r, e2⟩, f2, h2⟩ := Res.bind_ok h1
  cases f2
  cases h2
  exact ⟨d, rfl, f1⟩
theorem sqL_le {K : PySem.W.Frag} {σ : L2.St} {H : Hp} {a : Addr} {xs : List V} {ds : List D} (hK : X.K = K) (z : ∃ pins s, Inv X pins σ H s) (h : SqL K H a xs) (r : Reps K H xs ds) : ds.length ≤ line := by
  subst hK
  obtain ⟨pins, s, I⟩ := z
  obtain ⟨its, rv, _, hz⟩ := I.list h
  rw [← r.length, line_eq]
  exact hz
theorem sqT_le {K : PySem.W.Frag} {σ : L2.St} {H : Hp} {a : Addr} {xs : List V} {ds : List D} (hK : X.K = K) (z : ∃ pins s, Inv X pins σ H s) (h : SqT K H a xs) (r : Reps K H xs ds) : ds.length ≤ line := by
  subst hK
  obtain ⟨pins, s, I⟩ := z
  obtain ⟨its, rv, _, hz⟩ := I.tuple h
  rw [← r.length, line_eq]
  exact hz
theorem rep_fzL {K : PySem.W.Frag} {H : Hp} {v : V} {ds : List D} (h : Rep K H v (.lst ds)) : ∃ a xs, v = .ref a ∧ FzL K H a xs ∧ Reps K H xs ds := by
  cases h with
  | lst e r => exact ⟨_, _, rfl, e, r⟩
/-- a list or a tuple, walked -/
theorem piSeq {e : Expr} {x : Ex} (he : PE X e (tE X.K P G x)) (hx : isB x = false) : PI X tg e (tI X.K P G .seq (.cons x .nil)) := by
  refine ⟨fun pins s σ H R I q => ?_⟩
  obtain ⟨en, φ, ok, ds, en', its, h1, h2, q⟩ := q
  obtain ⟨d, rfl, h3⟩ := evs1 h1
  cases d <;> try cases h2
  · refine (piInv (pi_tup he)).run pins s σ H R I ⟨en, φ, ok, _, en', h3, fun v H1 ok1 ev1 v1 => ?_⟩
    obtain ⟨a, xs, rfl, ha, r⟩ := nw_tup (val_rep hx v1).nw
    exact ⟨a, rfl, ⟨xs, ha⟩, fun z => q _ H1 ok1 ev1 (wlk_tup ha r) (sqT_le rfl z ha r)⟩
  · refine (piInv (pi_list he)).run pins s σ H R I ⟨en, φ, ok, _, en', h3, fun v H1 ok1 ev1 v1 => ?_⟩
    obtain ⟨a, xs, rfl, ha, r⟩ := rep_fzL (val_rep hx v1)
    exact ⟨a, rfl, ⟨xs, ha.sq⟩, fun z => q _ H1 ok1 ev1 (wlk_list ha r) (sqL_le rfl z ha.sq r)⟩
theorem srcI_rng1 {ds its : List D} (h : srcI .rng1 ds = .ok its) : ∃ j, ds = [.int j] ∧ big62 j = true ∧ j.toNat ≤ line ∧ its = rangeD 0 j.toNat := by
  unfold srcI at h
  split at h <;> first
    | contradiction
    | (cases h; done)
    | (rename_i j _
       split at h
       · rename_i z
         cases h
         exact ⟨_, rfl, z.1, z.2, rfl⟩
       · cases h)
theorem srcI_rng2 {ds its : List D} (h : srcI .rng2 ds = .ok its) : ∃ i j, ds = [.int i, .int j] ∧ big62 i = true ∧ big62 j = true ∧ (j - i).toNat ≤ line ∧ its = rangeD i (j - i).toNat := by
  unfold srcI at h
  split at h <;> first
    | contradiction
    | (cases h; done)
    | (rename_i j _
       split at h
       · rename_i z
         cases h
         exact ⟨_, _, rfl, z.1, z.2.1, z.2.2, rfl⟩
       · cases h)
theorem srcI_rev {ds its : List D} (h : srcI .rev ds = .ok its) : ∃ xs, ds = [.lst xs] ∧ its = xs.reverse := by
  unfold srcI at h
  split at h <;> first
    | contradiction
    | (cases h; done)
    | (cases h; exact ⟨_, rfl, rfl⟩)
theorem srcI_zip {ds its : List D} (h : srcI .zip ds = .ok its) : ∃ xs ys, ds = [.lst xs, .lst ys] ∧ its = (xs.zip ys).map fun p => .tup [p.1, p.2] := by
  unfold srcI at h
  split at h <;> first
    | contradiction
    | (cases h; done)
    | (cases h; exact ⟨_, _, rfl, rfl⟩)
theorem srcI_enum {ds its : List D} (h : srcI .enum ds = .ok its) : ∃ xs, ds = [.lst xs] ∧ its = (xs.zipIdx).map fun p => .tup [.int (p.2 : Nat), p.1] := by
  unfold srcI at h
  split at h <;> first
    | contradiction
    | (cases h; done)
    | (cases h; exact ⟨_, rfl, rfl⟩)
theorem big62_ok {i : Int} (h : big62 i = true) : -(2 ^ 62) ≤ i ∧ i < 2 ^ 62 := by
  unfold big62 at h
  rw [Bool.and_eq_true] at h
  exact ⟨of_decide_eq_true h.1, of_decide_eq_true h.2⟩
theorem piR1 {a : Expr} {xs : Exs} (hg : Gl X "range") (hm : X.mg "range" = none) (ha : PA X [a] (tA X.K P G xs)) (hs : noStar a = true) (hb : noB xs = true) : PI X tg (.Call (.Name "range" p) [a] [] pos) (tI X.K P G .rng1 xs) := by
  refine piImp (pi_range1 hg hm ha (star1 hs)) fun σ H R q => ?_
  obtain ⟨en, φ, ok, ds, en', its, h1, h2, q⟩ := q
  refine ⟨en, φ, ok, ds, en', h1, fun vs H1 ok1 ev1 v1 => ?_⟩
  have r := vls_reps v1 hb
  obtain ⟨j, rfl, b1, b2, rfl⟩ := srcI_rng1 h2
  cases r with
  | cons r1 r2 =>
    cases r2
    cases r1
    obtain ⟨z1, z2⟩ := big62_ok b1
    exact ⟨j, rfl, z1, z2, q _ H1 ok1 ev1 (wlk_range 0 _) (by rw [rangeD_len]; exact b2)⟩
theorem piR2 {a b : Expr} {xs : Exs} (hg : Gl X "range") (hm : X.mg "range" = none) (ha : PA X [a, b] (tA X.K P G xs)) (hs : noStar a = true) (hs2 : noStar b = true) (hb : noB xs = true) : PI X tg (.Call (.Name "range" p) [a, b] [] pos) (tI X.K P G .rng2 xs) := by
  refine piImp (pi_range2 hg hm ha (by rw [star1 hs, star1 hs2]; rfl) (star1 hs2)) fun σ H R q => ?_
  obtain ⟨en, φ, ok, ds, en', its, h1, h2, q⟩ := q
  refine ⟨en, φ, ok, ds, en', h1, fun vs H1 ok1 ev1 v1 => ?_⟩
  have r := vls_reps v1 hb
  obtain ⟨i, j, rfl, b1, b2, b3, rfl⟩ := srcI_rng2 h2
  cases r with
  | cons r1 r2 =>
    cases r2 with
    | cons r2 r3 =>
      cases r3
      cases r1
      cases r2
      obtain ⟨z1, z2⟩ := big62_ok b1
      obtain ⟨z3, z4⟩ := big62_ok b2
      exact ⟨i, j, rfl, ⟨z1, z2, z3, z4⟩, q _ H1 ok1 ev1 (wlk_range i _) (by rw [rangeD_len]; exact b3)⟩
theorem piRev {a : Expr} {xs : Exs} (hg : Gl X "reversed") (hm : X.mg "reversed" = none) (ha : PA X [a] (tA X.K P G xs)) (hs : noStar a = true) (hb : noB xs = true) : PI X tg (.Call (.Name "reversed" p) [a] [] pos) (tI X.K P G .rev xs) := by
  refine piImp (piInv (pi_reversed hg hm ha (star1 hs))) fun σ H R q => ?_
  obtain ⟨en, φ, ok, ds, en', its, h1, h2, q⟩ := q
  refine ⟨en, φ, ok, ds, en', h1, fun vs H1 ok1 ev1 v1 => ?_⟩
  have r := vls_reps v1 hb
  obtain ⟨ds, rfl, rfl⟩ := srcI_rev h2
  cases r with
  | cons r1 r2 =>
    cases r2
    obtain ⟨a, xs, rfl, ha, r⟩ := rep_fzL r1
    exact ⟨a, xs, rfl, ha.sq, fun z => q _ H1 ok1 ev1 (wlk_rev ha r) (by rw [List.length_reverse]; exact sqL_le rfl z ha.sq r)⟩
theorem piZip {elts : List Expr} {kk : Nat} {tpos : Pos} {a b : Expr} {xs : Exs} (hg : Gl X "zip") (hm : X.mg "zip" = none) (ha : PA X [a, b] (tA X.K P G xs)) (hs : noStar a = true) (hs2 : noStar b = true) (hb : noB xs = true) :
    PI X (.Tuple elts kk tpos) (.Call (.Name "zip" p) [a, b] [] pos) (tI X.K P G .zip xs) := by
  refine piImp (piInv (pi_zip hg hm ha (star1 hs) (starAny (by simp [hs2])))) fun σ H R q => ?_
  obtain ⟨en, φ, ok, ds, en', its, h1, h2, q⟩ := q
  refine ⟨en, φ, ok, ds, en', h1, fun vs H1 ok1 ev1 v1 => ?_⟩
  have r := vls_reps v1 hb
  obtain ⟨ds, es, rfl, rfl⟩ := srcI_zip h2
  cases r with
  | cons r1 r2 =>
    cases r2 with
    | cons r2 r3 =>
      cases r3
      obtain ⟨a, xs, rfl, ha, r⟩ := rep_fzL r1
      obtain ⟨b, ys, rfl, hb, r'⟩ := rep_fzL r2
      refine ⟨a, b, xs, ys, rfl, ha.sq, hb.sq, fun z => q _ H1 ok1 ev1 (wlk_zip ha r hb r') ?_⟩
      have w := sqL_le rfl z ha.sq r
      rw [List.length_map, List.length_zip]
      omega
theorem piEnum {elts : List Expr} {kk : Nat} {tpos : Pos} {a : Expr} {xs : Exs} (hg : Gl X "enumerate") (hm : X.mg "enumerate" = none) (ha : PA X [a] (tA X.K P G xs)) (hs : noStar a = true) (hb : noB xs = true) :
    PI X (.Tuple elts kk tpos) (.Call (.Name "enumerate" p) [a] [] pos) (tI X.K P G .enum xs) := by
  refine piImp (piInv (pi_enum hg hm ha (star1 hs))) fun σ H R q => ?_
  obtain ⟨en, φ, ok, ds, en', its, h1, h2, q⟩ := q
  refine ⟨en, φ, ok, ds, en', h1, fun vs H1 ok1 ev1 v1 => ?_⟩
  have r := vls_reps v1 hb
  obtain ⟨ds, rfl, rfl⟩ := srcI_enum h2
  cases r with
  | cons r1 r2 =>
    cases r2
    obtain ⟨a, xs, rfl, ha, r⟩ := rep_fzL r1
    exact ⟨a, xs, rfl, ha.sq, fun z => q _ H1 ok1 ev1 (wlk_enum ha r) (by rw [List.length_map, List.length_zipIdx]; exact sqL_le rfl z ha.sq r)⟩
/-! comprehensions -/
theorem env_wipe {K : PySem.W.Frag} {H : Hp} {σ : L2.St} {en : En} {φ : Fp} (h : EnvOk K H σ en φ) (own : List Nat) : EnvOk K H (wipe σ own) (wipeE own en) (clr φ own) := by
  refine ⟨by rw [wipe_length, wipeE_len]; exact h.len, fun j => ?_, fun j k a hj hk => ?_, h.tb⟩
  · rw [wipeE_get]
    by_cases hj : j ∈ own
    · rw [if_pos hj]
      exact if_pos hj
    · rw [if_neg hj, wipe_out hj, show clr φ own j = φ j from if_neg hj]
      exact h.slot j
  · have e1 : a ∈ φ j := by unfold clr at hj; split at hj; cases hj; exact hj
    have e2 : a ∈ φ k := by unfold clr at hk; split at hk; cases hk; exact hk
    exact h.dis j k a e1 e2
theorem evo_updD {H H' : Hp} {O : Addr → Prop} {D : Addr} {xs zs : List V} (h : Evo H O H') (hD : Fr H D) (h1 : H' D = some (.lst xs)) (fz : FzS H' (upd H' D (.lst zs))) : Evo H O (upd H' D (.lst zs)) :=
  ⟨fun b u n k e => (upd_ne (fun z => hD u k (by rw [← z]; exact e))).trans (h.keep b u n k e), h.fz.trans fz, fun t => tabs_upd (h.tb t) h1 (fun z => z)⟩
/-- back in the def: its own names as they were, the others as they are now -/
theorem env_back {K : PySem.W.Frag} {H H' : Hp} {σ : L2.St} {en en' : En} {φ : Fp} {own : List Nat} (h : EnvOk K H σ en φ) (h' : EnvOk K H' (wipe σ own) en' (clr φ own)) (ev : Evo H (Own (clr φ own)) H') : EnvOk K H' σ (backE en own en') φ := by
  have hl : en'.length = en.length := by rw [← h'.len, wipe_length, h.len]
  refine ⟨by rw [backE_len, hl]; exact h.len, fun j => ?_, h.dis, h'.tb⟩
  rw [backE_get _ _ hl]
  by_cases hj : j ∈ own
  · rw [if_pos hj]
    refine slotOk_mono (h.slot j) ev.fz fun a ha u i e => ev.keep a u (fun ⟨k, hk⟩ => ?_) (ow_nT i) e
    have hk' : a ∈ φ k := by unfold clr at hk; split at hk; cases hk; exact hk
    have := h.dis j k a ha hk'
    subst this
    rw [show clr φ own j = [] from if_pos hj] at hk
    cases hk
  · rw [if_neg hj]
    have z := h'.slot j
    rw [wipe_out hj, show clr φ own j = φ j from if_neg hj] at z
    exact z
theorem clr_clr (φ : Fp) {own is : List Nat} (h : ∀ i ∈ is, i ∈ own) : clr (clr φ own) is = clr φ own := clr_same fun i hi => if_pos (h i hi)
theorem wipe_eq {σ σ' : L2.St} {own : List Nat} (hl : σ'.length = σ.length) (h : ∀ j, j ∉ own → σ'[j]? = σ[j]?) : wipe σ' own = wipe σ own := by
  refine List.ext_getElem? fun j => ?_
  by_cases hj : j ∈ own
  · have key : ∀ (τ : L2.St) (vs : List Nat), j ∈ vs → (wipe τ vs)[j]? = if j < τ.length then some none else none := by
      intro τ vs
      induction vs with
      | nil => intro h; cases h
      | cons v vs ih =>
        intro hm
        unfold wipe
        rw [List.getElem?_set]
        by_cases hv : v = j
        · rw [if_pos hv, wipe_length]
          subst hv
          split <;> rfl
        · rw [if_neg hv]
          rcases List.mem_cons.mp hm with e | hm
          · exact absurd e.symm hv
          · exact ih hm
    rw [key σ' own hj, key σ own hj, hl]
  · rw [wipe_out hj, wipe_out hj, h j hj]
def stepLc (P : Tb) (G : List D) (own : List Nat) (pt : Pat) (cnd : Exs) (elt : Ex) : D → En → Res (Option D × En) := fun d en => do
  let en1 ← bindP pt d en
  let c ← evs P G cnd en1
  if ← allT c.1 then
    let y ← ev P G elt c.2
    return (some y.1, wipeE own y.2)
  else return (none, wipeE own c.2)
theorem ev_lc (own : List Nat) (pt : Pat) (sk : SK) (src cnd : Exs) (elt : Ex) (en : En) : ev P G (.lc own pt sk src cnd elt) en = (do
    let r ← evs P G src en
    let its ← srcI sk r.1
    let q ← lcGo (stepLc P G own pt cnd elt) its (wipeE own r.2)
    return (.lst q.1, backE r.2 own q.2)) := by unfold ev; rfl
/-- the tests of a clause -/
def tC1 (K : PySem.W.Frag) (P : Tb) (G : List D) (cnd : Exs) : TT := fun σ H Q => ∃ en φ, EnvOk K H σ en φ ∧ ∃ cs b en', evs P G cnd en = .ok (cs, en') ∧ allT cs = .ok b ∧ ∀ H', EnvOk K H' σ en' φ → Evo H (Own φ) H' → Q b H'
theorem ptsN : PTs X [] (tC1 X.K P G .nil) := ⟨fun pins s σ H Q I h => by
  obtain ⟨en, φ, ok, cs, b, en', h1, h2, q⟩ := h
  cases h1
  cases h2
  exact pts_nil.run pins s σ H Q I (q H ok .refl)⟩
theorem pts1 {c : Expr} {x : Ex} (h : PT X c (tT X.K P G x)) : PTs X [c] (tC1 X.K P G (.cons x .nil)) := ⟨fun pins s σ H Q I q => by
  obtain ⟨en, φ, ok, cs, b, en', h1, h2, q⟩ := q
  obtain ⟨d, rfl, h3⟩ := evs1 h1
  have hd : d = .bl b := by
    unfold allT at h2
    obtain ⟨k, e1, e2⟩ := Res.bind_ok h2
    cases asBl_ok e1
    cases k with
    | true => cases e2; rfl
    | false => cases e2; rfl
  subst hd
  exact (pts_one h).run pins s σ H Q I ⟨en, φ, ok, b, en', h3, q⟩⟩
/-- the comprehension's reading, turn by turn -/
theorem lc_core' {own : List Nat} {pt : Pat} {sk : SK} {src cnd : Exs} {elt : Ex} (hpt : ∀ i ∈ ptVars pt, i ∈ own) (hix : ∀ i ∈ own, i < X.N.length) (helt : isB elt = false) {σ : L2.St} {H : Hp} {Q : VK} (hσ : σ.length = X.N.length) (h : tO X.K P G (.lc own pt sk src cnd elt) σ H Q) :
    tLc (tI X.K P G sk src) (gP X.K pt) (tC1 X.K P G cnd) (tE X.K P G elt) own σ H Q := by
  obtain ⟨en, φ, ok, d, en', he, q⟩ := h
  rw [ev_lc] at he
  obtain ⟨⟨ds, e1⟩, f1, he1⟩ := Res.bind_ok he
  obtain ⟨its, f2, he2⟩ := Res.bind_ok he1
  obtain ⟨⟨total, enF⟩, f3, he3⟩ := Res.bind_ok he2
  cases he3
  refine ⟨en, φ, ok, ds, e1, its, f1, f2, fun J H1 ok1 ev1 wl hlen => ?_⟩
  intro D hD
  obtain ⟨Gd, Y, hW, g0, gst, gy⟩ := wl
  have noD : ∀ {φ' : Fp}, (∀ a, Own φ' a → Own φ a) → ¬ Own φ' D := fun s o => by
    obtain ⟨ys, z, _⟩ := ok1.own (s D o)
    rw [hD] at z; cases z
  have subc : ∀ a, Own (clr φ own) a → Own φ a := fun a o => own_clr o
  -- what holds at turn i
  refine lc_it hW (Pv := fun i H => ∃ ei acc xs rest, H D = some (.lst xs) ∧ Reps X.K H xs acc ∧ acc.length ≤ i ∧ EnvOk X.K H (wipe σ own) ei (clr φ own) ∧ Evo H1 (Own (clr φ own)) H ∧ Gd H ∧
      lcGo (stepLc P G own pt cnd elt) (its.drop i) ei = .ok (rest, enF) ∧ acc ++ rest = total) ?_ ?_ ?_ ?_
  · refine ⟨wipeE own e1, [], [], total, upd_same, .nil, Nat.le_refl _, ?_, .of (same_upd hD), gst _ _ g0 (.of (same_upd hD)), f3, rfl⟩
    exact (env_wipe ok1 own).mono (same_upd hD)
  · rintro i H2 _ ⟨_, _, _, _, _, _, _, _, _, g, _⟩
    exact g
  · rintro i x H2 H3 hi ⟨ei, acc, xs, rest, hx, rx, hai, oki, evi, gi, hgo, htot⟩ hy
    have hget : its[i]? = some its[i] := List.getElem?_eq_getElem hi
    obtain ⟨sm, rx0⟩ := gy i H2 x H3 its[i] hi gi hget hy
    rw [List.drop_eq_getElem_cons hi] at hgo
    unfold lcGo at hgo
    obtain ⟨⟨yo, e2⟩, s1, hgo1⟩ := Res.bind_ok hgo
    obtain ⟨⟨rest', e3⟩, s2, hgo2⟩ := Res.bind_ok hgo1
    cases hgo2
    obtain ⟨eb, b1, s3⟩ := Res.bind_ok s1
    obtain ⟨⟨cs, e4⟩, b2, s4⟩ := Res.bind_ok s3
    obtain ⟨k, b3, s5⟩ := Res.bind_ok s4
    have lei : ei.length = X.N.length := by rw [← oki.len, wipe_length, hσ]
    refine gP_ok (oki.mono sm) rx0 b1 (fun j hj => by rw [lei]; exact hix j (hpt j hj)) fun σ2 ok2 hk2 => ?_
    rw [clr_clr φ hpt] at ok2
    have l2 : σ2.length = (wipe σ own).length := by rw [ok2.len, bindP_len b1, oki.len]
    have w2 : wipe σ2 own = wipe σ own := by
      rw [wipe_eq (own := own) l2 fun j hj => hk2 j fun z => hj (hpt j z)]
      refine wipe_eq (wipe_length _ _) fun j hj => wipe_out hj
    have hx3 : H3 D = some (.lst xs) := sm _ _ hx
    refine ⟨w2, eb, clr φ own, ok2, cs, k, e4, b2, b3, fun H4 ok4 ev4 => ?_⟩
    have hx4 : H4 D = some (.lst xs) := ev4.keep D _ (noD subc) (fun _ z => nomatch z) hx3
    have ev14 : Evo H1 (Own (clr φ own)) H4 := (evi.trans' (.of sm)).trans' ev4
    cases k with
    | true =>
      obtain ⟨⟨y, e5⟩, b4, s6⟩ := Res.bind_ok s5
      cases s6
      dsimp only
      rw [if_pos rfl]
      refine ⟨e4, clr φ own, ok4, y, e5, b4, fun w H5 ok5 ev5 v5 => ?_⟩
      have hx5 : H5 D = some (.lst xs) := ev5.keep D _ (noD subc) (fun _ z => nomatch z) hx4
      have fzD : ∀ zs, FzS H5 (upd H5 D (.lst zs)) := fun zs => fzS_upd fun u e f => by rw [hx5] at e; cases e; exact f
      refine ⟨xs, hx5, ?_, ?_⟩
      · rw [rx.length, ← line_eq]
        omega
      · refine ⟨wipeE own e5, acc ++ [y], xs ++ [w], rest', upd_same, ?_, ?_, ?_, ?_, ?_, s2, ?_⟩
        · have r5 := ((rx.mono (.of sm)).mono ev4.fz).mono ev5.fz
          exact (r5.append (.cons (val_rep helt v5) .nil)).mono (fzD _)
        · rw [List.length_append]
          simp only [List.length_cons, List.length_nil]
          omega
        · have z := env_wipe ok5 own
          rw [w2, clr_clr φ (fun i hi => hi)] at z
          exact env_upd z hx5 (noD subc)
        · have ev15 := ev14.trans' ev5
          exact evo_updD ev15 (.of hD) hx5 (fzD _)
        · exact gst _ _ (gst _ _ (gst _ _ (gst _ _ gi (.of sm)) ev4.fz) ev5.fz) (fzD _)
        · rw [List.append_assoc]
          exact htot
    | false =>
      cases s5
      dsimp only
      rw [if_neg Bool.false_ne_true]
      refine ⟨wipeE own e4, acc, xs, rest', hx4, (rx.mono (.of sm)).mono ev4.fz, Nat.le_succ_of_le hai, ?_, ev14, gst _ _ (gst _ _ gi (.of sm)) ev4.fz, s2, htot⟩
      have z := env_wipe ok4 own
      rw [w2, clr_clr φ (fun i hi => hi)] at z
      exact z
  · rintro H2 ⟨ei, acc, xs, rest, hx, rx, hai, oki, evi, gi, hgo, htot⟩
    rw [List.drop_length] at hgo
    cases hgo
    rw [List.append_nil] at htot
    subst htot
    exact q _ H2 (env_back ok1 oki evi) (ev1.trans' (evi.sub subc)) ⟨D, xs, rfl, none_before ok1 ev1 (.of hD), hx, rx⟩
/-- the first clause's turn, the second's loop within -/
def stepOut (P : Tb) (G : List D) (own : List Nat) (pt : Pat) (cnd : Exs) (vs : List Nat) (pt1 : Pat) (sk1 : SK) (src1 cnd1 : Exs) (elt : Ex) : D → En → Res (List D × En) := fun d en => do
  let en1 ← bindP pt d en
  let c ← evs P G cnd en1
  if ← allT c.1 then
    let r1 ← evs P G src1 c.2
    let its1 ← srcI sk1 r1.1
    let q1 ← lcGo (stepLc P G vs pt1 cnd1 elt) its1 (wipeE vs r1.2)
    return (q1.1, wipeE own q1.2)
  else return ([], wipeE own c.2)
theorem ev_lc2 (own : List Nat) (pt : Pat) (sk : SK) (src cnd : Exs) (vs : List Nat) (pt1 : Pat) (sk1 : SK) (src1 cnd1 : Exs) (elt : Ex) (en : En) : ev P G (.lc2 own pt sk src cnd vs pt1 sk1 src1 cnd1 elt) en = (do
    let r ← evs P G src en
    let its ← srcI sk r.1
    let q ← lcGo2 (stepOut P G own pt cnd vs pt1 sk1 src1 cnd1 elt) its (wipeE own r.2)
    if q.1.length ≤ line then return (.lst q.1, backE r.2 own q.2) else .bad) := by unfold ev; rfl
/-- any loop over what is walked -/
theorem it_gen {J : It} {n : Nat} {Gd : Hp → Prop} {Y : Nat → Hp → V → Hp → Prop} (w : Walk J n Gd Y) {B : V → Hp → (Hp → Prop) → Prop} {H0 : Hp} {Qd : Hp → Prop} (Pv : Nat → Hp → Prop) (h0 : Pv 0 H0) (hG : ∀ i H, i ≤ n → Pv i H → Gd H)
    (hs : ∀ i x H H', i < n → Pv i H → Y i H x H' → B x H' (Pv (i + 1))) (hd : ∀ H, Pv n H → Qd H) :
    ∃ W : Nat → Nat → Hp → Prop, (∃ m, W 0 m H0) ∧ ∀ i m H, W i m H → (J.stop i H ∧ Qd H) ∨ (J.go i H ∧ ∃ Nx : Hp → Prop, (∀ H', Nx H' → ∃ m', m' < m ∧ W (i + 1) m' H') ∧ ∀ x H', J.yld i H x H' → B x H' Nx) := by
  refine ⟨fun i m H => m = n - i ∧ i ≤ n ∧ Pv i H, ⟨n, by simp, Nat.zero_le _, h0⟩, ?_⟩
  rintro i m H ⟨rfl, hi, p⟩
  by_cases hlt : i < n
  · exact .inr ⟨w.goes i H hlt (hG i H hi p), Pv (i + 1), fun H' p' => ⟨n - (i + 1), by omega, rfl, hlt, p'⟩, fun x H' y => hs i x H H' hlt p (w.yields i H x H' hlt (hG i H hi p) y)⟩
  · have e : i = n := by omega
    subst e
    exact .inl ⟨w.stops H (hG _ H hi p), hd H p⟩
theorem lc2_core' {own vs : List Nat} {pt pt1 : Pat} {sk sk1 : SK} {src cnd src1 cnd1 : Exs} {elt : Ex} (hpt : ∀ i ∈ ptVars pt, i ∈ own) (hpt1 : ∀ i ∈ ptVars pt1, i ∈ vs) (hvs : ∀ i ∈ vs, i ∈ own) (hix : ∀ i ∈ own, i < X.N.length) (helt : isB elt = false) {σ : L2.St} {H : Hp} {Q : VK} (hσ : σ.length = X.N.length)
    (h : tO X.K P G (.lc2 own pt sk src cnd vs pt1 sk1 src1 cnd1 elt) σ H Q) :
    tLc2 (tI X.K P G sk src) (gP X.K pt) (tC1 X.K P G cnd) (tI X.K P G sk1 src1) (gP X.K pt1) (tC1 X.K P G cnd1) (tE X.K P G elt) own vs σ H Q := by
  obtain ⟨en, φ, ok, d, en', he, q⟩ := h
  rw [ev_lc2] at he
  obtain ⟨⟨ds, e1⟩, f1, he1⟩ := Res.bind_ok he
  obtain ⟨its, f2, he2⟩ := Res.bind_ok he1
  obtain ⟨⟨total, enF⟩, f3, he3⟩ := Res.bind_ok he2
  dsimp only at he3
  split at he3
  rotate_left
  · cases he3
  rename_i htl
  cases he3
  refine ⟨en, φ, ok, ds, e1, its, f1, f2, fun J H1 ok1 ev1 wl hlen => ?_⟩
  intro D hD
  obtain ⟨Gd, Y, hW, g0, gst, gy⟩ := wl
  have noD : ∀ {φ' : Fp}, (∀ a, Own φ' a → Own φ a) → ¬ Own φ' D := fun s o => by
    obtain ⟨ys, z, _⟩ := ok1.own (s D o)
    rw [hD] at z; cases z
  have subc : ∀ a, Own (clr φ own) a → Own φ a := fun a o => own_clr o
  have hvc : clr (clr φ own) vs = clr φ own := clr_clr φ hvs
  refine it_gen hW (Pv := fun i H => ∃ ei acc xs rest, H D = some (.lst xs) ∧ Reps X.K H xs acc ∧ EnvOk X.K H (wipe σ own) ei (clr φ own) ∧ Evo H1 (Own (clr φ own)) H ∧ Gd H ∧
      lcGo2 (stepOut P G own pt cnd vs pt1 sk1 src1 cnd1 elt) (its.drop i) ei = .ok (rest, enF) ∧ acc ++ rest = total) ?_ ?_ ?_ ?_
  · refine ⟨wipeE own e1, [], [], total, upd_same, .nil, ?_, .of (same_upd hD), gst _ _ g0 (.of (same_upd hD)), f3, rfl⟩
    exact (env_wipe ok1 own).mono (same_upd hD)
  · rintro i H2 _ ⟨_, _, _, _, _, _, _, _, g, _⟩
    exact g
  · rintro i x H2 H3 hi ⟨ei, acc, xs, rest, hx, rx, oki, evi, gi, hgo, htot⟩ hy
    have hget : its[i]? = some its[i] := List.getElem?_eq_getElem hi
    obtain ⟨sm, rx0⟩ := gy i H2 x H3 its[i] hi gi hget hy
    rw [List.drop_eq_getElem_cons hi] at hgo
    unfold lcGo2 at hgo
    obtain ⟨⟨yo, e2⟩, s1, hgo1⟩ := Res.bind_ok hgo
    obtain ⟨⟨rest', e3⟩, s2, hgo2⟩ := Res.bind_ok hgo1
    cases hgo2
    obtain ⟨eb, b1, s3⟩ := Res.bind_ok s1
    obtain ⟨⟨cs, e4⟩, b2, s4⟩ := Res.bind_ok s3
    obtain ⟨k, b3, s5⟩ := Res.bind_ok s4
    have lei : ei.length = X.N.length := by rw [← oki.len, wipe_length, hσ]
    refine gP_ok (oki.mono sm) rx0 b1 (fun j hj => by rw [lei]; exact hix j (hpt j hj)) fun σ2 ok2 hk2 => ?_
    rw [clr_clr φ hpt] at ok2
    have l2 : σ2.length = (wipe σ own).length := by rw [ok2.len, bindP_len b1, oki.len]
    have w2 : wipe σ2 own = wipe σ own := by
      rw [wipe_eq (own := own) l2 fun j hj => hk2 j fun z => hj (hpt j z)]
      refine wipe_eq (wipe_length _ _) fun j hj => wipe_out hj
    have hx3 : H3 D = some (.lst xs) := sm _ _ hx
    refine ⟨w2, eb, clr φ own, ok2, cs, k, e4, b2, b3, fun H4 ok4 ev4 => ?_⟩
    have hx4 : H4 D = some (.lst xs) := ev4.keep D _ (noD subc) (fun _ z => nomatch z) hx3
    have ev14 : Evo H1 (Own (clr φ own)) H4 := (evi.trans' (.of sm)).trans' ev4
    have g4 : Gd H4 := gst _ _ (gst _ _ gi (.of sm)) ev4.fz
    have rx4 : Reps X.K H4 xs acc := (rx.mono (.of sm)).mono ev4.fz
    cases k with
    | true =>
      obtain ⟨⟨ds1, e5⟩, b4, s6⟩ := Res.bind_ok s5
      obtain ⟨its1, b5, s7⟩ := Res.bind_ok s6
      obtain ⟨⟨in1, eIn⟩, b6, s8⟩ := Res.bind_ok s7
      cases s8
      dsimp only
      rw [if_pos rfl]
      refine ⟨e4, clr φ own, ok4, ds1, e5, its1, b4, b5, fun J1 H5 ok5 ev5 wl1 hlen1 => ?_⟩
      obtain ⟨Gd1, Y1, hW1, g10, gst1, gy1⟩ := wl1
      have hx5 : H5 D = some (.lst xs) := ev5.keep D _ (noD subc) (fun _ z => nomatch z) hx4
      refine it_gen hW1 (Pv := fun j H => ∃ ej acc xs rest1, H D = some (.lst xs) ∧ Reps X.K H xs acc ∧ EnvOk X.K H (wipe σ2 vs) ej (clr φ own) ∧ Evo H1 (Own (clr φ own)) H ∧ Gd H ∧ Gd1 H ∧
        lcGo (stepLc P G vs pt1 cnd1 elt) (its1.drop j) ej = .ok (rest1, eIn) ∧ acc ++ (rest1 ++ rest') = total) ?_ ?_ ?_ ?_
      · refine ⟨wipeE vs e5, acc, xs, in1, hx5, rx4.mono ev5.fz, ?_, ev14.trans' ev5, gst _ _ g4 ev5.fz, g10, b6, htot⟩
        have z := env_wipe ok5 vs
        rw [hvc] at z
        exact z
      · rintro j H6 _ ⟨_, _, _, _, _, _, _, _, _, g, _⟩
        exact g
      · rintro j x1 H6 H7 hj ⟨ej, acc1, xs1, rest1, hy1, ry1, okj, evj, gj, gj1, hgo1, htot1⟩ hyy
        have hget1 : its1[j]? = some its1[j] := List.getElem?_eq_getElem hj
        obtain ⟨sm1, rx1⟩ := gy1 j H6 x1 H7 its1[j] hj gj1 hget1 hyy
        rw [List.drop_eq_getElem_cons hj] at hgo1
        unfold lcGo at hgo1
        obtain ⟨⟨yo1, e6⟩, t1, hgo2⟩ := Res.bind_ok hgo1
        obtain ⟨⟨rest2, e7⟩, t2, hgo3⟩ := Res.bind_ok hgo2
        cases hgo3
        obtain ⟨eb1, c1, t3⟩ := Res.bind_ok t1
        obtain ⟨⟨cs1, e8⟩, c2, t4⟩ := Res.bind_ok t3
        obtain ⟨k1, c3, t5⟩ := Res.bind_ok t4
        have lej : ej.length = X.N.length := by rw [← okj.len, wipe_length, l2, wipe_length, hσ]
        refine gP_ok (okj.mono sm1) rx1 c1 (fun i hi => by rw [lej]; exact hix i (hvs i (hpt1 i hi))) fun σ3 ok3 hk3 => ?_
        rw [clr_clr φ (fun i hi => hvs i (hpt1 i hi))] at ok3
        have l3 : σ3.length = (wipe σ2 vs).length := by rw [ok3.len, bindP_len c1, okj.len]
        have w3 : wipe σ3 vs = wipe σ2 vs := by
          rw [wipe_eq (own := vs) l3 fun i hi => hk3 i fun z => hi (hpt1 i z)]
          exact wipe_eq (wipe_length _ _) fun i hi => wipe_out hi
        have hy3 : H7 D = some (.lst xs1) := sm1 _ _ hy1
        refine ⟨w3, eb1, clr φ own, ok3, cs1, k1, e8, c2, c3, fun H8 ok8 ev8 => ?_⟩
        have hy8 : H8 D = some (.lst xs1) := ev8.keep D _ (noD subc) (fun _ z => nomatch z) hy3
        have ev18 : Evo H1 (Own (clr φ own)) H8 := (evj.trans' (.of sm1)).trans' ev8
        cases k1 with
        | true =>
          obtain ⟨⟨y, e9⟩, c4, t6⟩ := Res.bind_ok t5
          cases t6
          dsimp only
          rw [if_pos rfl]
          refine ⟨e8, clr φ own, ok8, y, e9, c4, fun w H9 ok9 ev9 v9 => ?_⟩
          have hy9 : H9 D = some (.lst xs1) := ev9.keep D _ (noD subc) (fun _ z => nomatch z) hy8
          have fzD : ∀ zs, FzS H9 (upd H9 D (.lst zs)) := fun zs => fzS_upd fun u e f => by rw [hy9] at e; cases e; exact f
          refine ⟨xs1, hy9, ?_, ?_⟩
          · have := congrArg List.length htot1
            dsimp only at this
            rw [List.length_append, List.length_append, List.length_cons] at this
            rw [ry1.length, ← line_eq]
            omega
          · refine ⟨wipeE vs e9, acc1 ++ [y], xs1 ++ [w], rest2, upd_same, ?_, ?_, ?_, ?_, ?_, t2, ?_⟩
            · have r5 := ((ry1.mono (.of sm1)).mono ev8.fz).mono ev9.fz
              exact (r5.append (.cons (val_rep helt v9) .nil)).mono (fzD _)
            · have z := env_wipe ok9 vs
              rw [w3, hvc] at z
              exact env_upd z hy9 (noD subc)
            · have ev19 := ev18.trans' ev9
              exact evo_updD ev19 (.of hD) hy9 (fzD _)
            · exact gst _ _ (gst _ _ (gst _ _ (gst _ _ gj (.of sm1)) ev8.fz) ev9.fz) (fzD _)
            · exact gst1 _ _ (gst1 _ _ (gst1 _ _ (gst1 _ _ gj1 (.of sm1)) ev8.fz) ev9.fz) (fzD _)
            · rw [List.append_assoc]
              exact htot1
        | false =>
          cases t5
          dsimp only
          rw [if_neg Bool.false_ne_true]
          refine ⟨wipeE vs e8, acc1, xs1, rest2, hy8, (ry1.mono (.of sm1)).mono ev8.fz, ?_, ev18, gst _ _ (gst _ _ gj (.of sm1)) ev8.fz, gst1 _ _ (gst1 _ _ gj1 (.of sm1)) ev8.fz, t2, htot1⟩
          have z := env_wipe ok8 vs
          rw [w3, hvc] at z
          exact z
      · rintro H6 ⟨ej, acc1, xs1, rest1, hy1, ry1, okj, evj, gj, gj1, hgo1, htot1⟩
        rw [List.drop_length] at hgo1
        cases hgo1
        refine ⟨wipeE own eIn, acc1, xs1, rest', hy1, ry1, ?_, evj, gj, s2, htot1⟩
        have z := env_wipe okj own
        rw [clr_clr φ (fun i hi => hi), wipe_eq (own := own) (σ := σ2) (wipe_length _ _) fun i hi => wipe_out (fun m => hi (hvs i m)), w2] at z
        exact z
    | false =>
      cases s5
      dsimp only
      rw [if_neg Bool.false_ne_true]
      refine ⟨wipeE own e4, acc, xs, rest', hx4, rx4, ?_, ev14, g4, s2, htot⟩
      have z := env_wipe ok4 own
      rw [w2, clr_clr φ (fun i hi => hi)] at z
      exact z
  · rintro H2 ⟨ei, acc, xs, rest, hx, rx, oki, evi, gi, hgo, htot⟩
    rw [List.drop_length] at hgo
    cases hgo
    rw [List.append_nil] at htot
    subst htot
    exact q _ H2 (env_back ok1 oki evi) (ev1.trans' (evi.sub subc)) ⟨D, xs, rfl, none_before ok1 ev1 (.of hD), hx, rx⟩
end
end Vi

/-! Vi, part 14: comprehensions as expressions; statements. -/
namespace Vi
open PySem PySem.Spec PyProof.Rows
open L2
variable [Wx]

def visB (sc : Scope) (x : Str) : Bool := match sc.names.lookup x with
  | some .local => true
  | some .cell => true
  | some .free => true
  | _ => false
def locB (sc : Scope) (x : Str) : Bool := match sc.names.lookup x with
  | some .local => true
  | some .cell => true
  | _ => false
def glB (sc : Scope) (x : Str) : Bool := match sc.names.lookup x with
  | some .globalImplicit => true
  | _ => false
theorem vis_of {sc : Scope} {x : Str} (h : visB sc x = true) : Vis sc x := by
  unfold visB at h
  split at h <;> first
    | (rename_i e; exact .inl e)
    | (rename_i e; exact .inr (.inl e))
    | (rename_i e; exact .inr (.inr e))
    | cases h
theorem loc_of {sc : Scope} {x : Str} (h : locB sc x = true) : Loc sc x := by
  unfold locB at h
  split at h <;> first
    | (rename_i e; exact .inl e)
    | (rename_i e; exact .inr e)
    | cases h
theorem gl_of {X : Cx} {x : Str} (h : glB X.env.scope x = true) : Gl X x := by
  unfold glB at h
  split at h <;> first
    | (rename_i e; exact e)
    | cases h
/-- the names of a target -/
def chkNs (N : List Str) (sc : Scope) : List Nat → List Expr → Bool
  | [], [] => true
  | i :: is, e :: es => (match e with
    | .Name x _ => decide (N[i]? = some x) && locB sc x
    | _ => false) && chkNs N sc is es
  | _, _ => false
def chkP (N : List Str) (sc : Scope) : Pat → Expr → Bool
  | .v i, .Name x _ => decide (N[i]? = some x) && locB sc x
  | .t is, .Tuple es _ _ => chkNs N sc is es
  | _, _ => false
theorem chkNs_ok {N : List Str} {sc : Scope} : ∀ {is : List Nat} {es : List Expr}, chkNs N sc is es = true → is.length = es.length ∧ (∀ e ∈ es, ∃ x p, e = .Name x p) ∧ ∀ (k : Nat) (i : Nat), is[k]? = some i → ∃ x p, es[k]? = some (.Name x p) ∧ N[i]? = some x ∧ locB sc x = true
  | [], [], _ => ⟨rfl, fun _ h => (by cases h), fun k i h => by simp at h⟩
  | [], _ :: _, h => by cases h
  | _ :: _, [], h => by cases h
  | i :: is, e :: es, h => by
    unfold chkNs at h
    rw [Bool.and_eq_true] at h
    obtain ⟨h1, h2⟩ := h
    obtain ⟨l, m, q⟩ := chkNs_ok h2
    cases e with
    | Name x p =>
      simp only at h1
      rw [Bool.and_eq_true] at h1
      refine ⟨by rw [List.length_cons, List.length_cons, l], fun e he => ?_, fun k j hk => ?_⟩
      · rcases List.mem_cons.mp he with rfl | he
        · exact ⟨x, p, rfl⟩
        · exact m e he
      · cases k with
        | zero =>
          have e : i = j := by simpa using hk
          subst e
          exact ⟨x, p, rfl, of_decide_eq_true h1.1, h1.2⟩
        | succ k => exact q k j (by simpa using hk)
    | _ => cases h1
section
variable {X : Cx} {P : Tb} {G : List D} {pos p : Pos} {tg : Expr}
/-- the names of sc may be bound here -/
def Binds0 (X : Cx) (sc : Scope) : Prop := ∀ x, locB sc x = true → Loc X.env.scope x ∧ (X.fn x = true ∨ X.env.scope.names.lookup x = some .local)
theorem pgP {sc : Scope} (hN : X.N.Nodup) (hc : X.calm = true) (hf : Binds0 X sc) {pt : Pat} {e : Expr} (h : chkP X.N sc pt e = true) : PG X e (gP X.K pt) := by
  cases pt with
  | v i =>
    cases e with
    | Name x p =>
      unfold chkP at h
      rw [Bool.and_eq_true] at h
      exact pg_name hN (of_decide_eq_true h.1) (hf x h.2).1 (hf x h.2).2
    | _ => cases h
  | t is =>
    cases e with
    | Tuple es k p =>
      obtain ⟨l, m, q⟩ := chkNs_ok (show chkNs X.N sc is es = true from h)
      obtain ⟨n1, n2⟩ := names_each (env := X.env) es m
      refine pg_tup hc (pgs_names hN is es (fun k i hk => ?_) l) (n1.trans l.symm) n2
      obtain ⟨x, p, e1, e2, e3⟩ := q k i hk
      exact ⟨x, p, e1, e2, (hf x e3).1, (hf x e3).2⟩
    | _ => cases h
/-- in a comprehension's block: its own names -/
theorem binds_blk {s : Shared} {H : Hp} {scope : Scope} {C : Addr} {cl : List (Str × Addr)} {fp : List Addr} : Binds0 (X.blk s H scope (compEnvC scope cl C X.env) fp) scope := by
  intro x h
  have keep : ∀ k, k ≠ .free → scope.names.lookup x = some k → (compEnvC scope cl C X.env).scope.names.lookup x = some k := fun k hk e => lookup_relS_keep (sc := X.env.scope) hk e
  rcases loc_of h with e | e
  · exact ⟨.inl (keep _ (by decide) e), .inr (keep _ (by decide) e)⟩
  · refine ⟨.inr (keep _ (by decide) e), .inl ?_⟩
    show (scope.names.lookup x == some .cell) = true
    rw [e]
    rfl
theorem peLcO {own : List Nat} {ownP : List (Str × Nat)} {pt : Pat} {sk : SK} {src cnd : Exs} {x : Ex} {elt iter : Expr} {ifs : List Expr} {scope : Scope} (hc : X.calm = true) (hN : X.N.Nodup) (hi : PI X tg iter (tI X.K P G sk src)) (ok : BlkOk X.N X.env.scope scope ownP)
    (ho : ownP.map (·.2) = own) (hpt : ∀ i ∈ ptVars pt, i ∈ own) (hix : ∀ i ∈ own, i < X.N.length) (helt : isB x = false) (hg : chkP X.N scope pt tg = true)
    (ht : ∀ (s : Shared) (H : Hp) (C : Addr) (cl : List (Str × Addr)) (fp : List Addr), PTs (X.blk s H scope (compEnvC scope cl C X.env) fp) ifs (tC1 X.K P G cnd))
    (he : ∀ (s : Shared) (H : Hp) (C : Addr) (cl : List (Str × Addr)) (fp : List Addr), PE (X.blk s H scope (compEnvC scope cl C X.env) fp) elt (tE X.K P G x)) (hs : notSet iter = true) :
    PE X (.ListComp elt [⟨tg, iter, ifs, 0⟩] scope pos) (tO X.K P G (.lc own pt sk src cnd x)) := by
  refine ⟨fun pins s σ H Q I h => ?_⟩
  refine (pe_lc (g := gP X.K pt) hc hN hi ok (fun s H C cl fp => pgP (X := X.blk s H scope (compEnvC scope cl C X.env) fp) hN hc binds_blk hg) ht he (notSet_folded hs)).run pins s σ H Q I ?_
  rw [ho]
  exact lc_core' hpt hix helt I.len h
/-- name = [..] on one line -/
theorem psLc {i : Nat} {y : Str} {py spos : Pos} {own : List Nat} {ownP : List (Str × Nat)} {pt : Pat} {sk : SK} {src cnd : Exs} {x : Ex} {elt iter : Expr} {ifs : List Expr} {scope : Scope} (hc : X.calm = true) (hN : X.N.Nodup) (hi : PI X tg iter (tI X.K P G sk src)) (ok : BlkOk X.N X.env.scope scope ownP)
    (ho : ownP.map (·.2) = own) (hpt : ∀ i ∈ ptVars pt, i ∈ own) (hix : ∀ i ∈ own, i < X.N.length) (helt : isB x = false) (hg : chkP X.N scope pt tg = true)
    (ht : ∀ (s : Shared) (H : Hp) (C : Addr) (cl : List (Str × Addr)) (fp : List Addr), PTs (X.blk s H scope (compEnvC scope cl C X.env) fp) ifs (tC1 X.K P G cnd))
    (he : ∀ (s : Shared) (H : Hp) (C : Addr) (cl : List (Str × Addr)) (fp : List Addr), PE (X.blk s H scope (compEnvC scope cl C X.env) fp) elt (tE X.K P G x)) (hs : notSet iter = true)
    (hy : X.N[i]? = some y) (hyl : X.env.scope.names.lookup y = some .local) (hk : X.env.scope.kind = .function) (hl : (py.line == pos.line) = true) (ha : (scope.names.any fun (n, k) => n == y && (k == .local || k == .cell)) = false) :
    PS X (.Assign [.Name y py] (.ListComp elt [⟨tg, iter, ifs, 0⟩] scope pos) spos) (tAsg (tO X.K P G (.lc own pt sk src cnd x)) (gName i)) := by
  refine ⟨fun pins s σ H D I h => ?_⟩
  refine (ps_setLc (g := gP X.K pt) hc hN hy hyl (sw_true hk hyl hl ha) hi ok (fun s H C cl fp => pgP (X := X.blk s H scope (compEnvC scope cl C X.env) fp) hN hc binds_blk hg) ht he (notSet_folded hs)).run pins s σ H D I ?_
  rw [ho]
  exact lc_core' hpt hix helt I.len h
theorem peLc2O {own vs : List Nat} {ownP : List (Str × Nat)} {pt pt1 : Pat} {sk sk1 : SK} {src cnd src1 cnd1 : Exs} {x : Ex} {elt iter tg1 iter1 : Expr} {ifs ifs1 : List Expr} {scope : Scope} (hc : X.calm = true) (hN : X.N.Nodup) (hi : PI X tg iter (tI X.K P G sk src)) (ok : BlkOk X.N X.env.scope scope ownP)
    (ho : ownP.map (·.2) = own) (hpt : ∀ i ∈ ptVars pt, i ∈ own) (hpt1 : ∀ i ∈ ptVars pt1, i ∈ vs) (hvs : ∀ i ∈ vs, i ∈ own) (hix : ∀ i ∈ own, i < X.N.length) (helt : isB x = false) (hg : chkP X.N scope pt tg = true) (hg1 : chkP X.N scope pt1 tg1 = true)
    (ht : ∀ (s : Shared) (H : Hp) (C : Addr) (cl : List (Str × Addr)) (fp : List Addr), PTs (X.blk s H scope (compEnvC scope cl C X.env) fp) ifs (tC1 X.K P G cnd))
    (hi1 : ∀ (s : Shared) (H : Hp) (C : Addr) (cl : List (Str × Addr)) (fp : List Addr), PI (X.blk s H scope (compEnvC scope cl C X.env) fp) tg1 iter1 (tI X.K P G sk1 src1))
    (ht1 : ∀ (s : Shared) (H : Hp) (C : Addr) (cl : List (Str × Addr)) (fp : List Addr), PTs (X.blk s H scope (compEnvC scope cl C X.env) fp) ifs1 (tC1 X.K P G cnd1))
    (he : ∀ (s : Shared) (H : Hp) (C : Addr) (cl : List (Str × Addr)) (fp : List Addr), PE (X.blk s H scope (compEnvC scope cl C X.env) fp) elt (tE X.K P G x)) (hs : notSet iter = true) (hs1 : notSet iter1 = true) :
    PE X (.ListComp elt [⟨tg, iter, ifs, 0⟩, ⟨tg1, iter1, ifs1, 0⟩] scope pos) (tO X.K P G (.lc2 own pt sk src cnd vs pt1 sk1 src1 cnd1 x)) := by
  refine ⟨fun pins s σ H Q I h => ?_⟩
  refine (pe_lc2 (vs1 := vs) (g := gP X.K pt) (g1 := gP X.K pt1) hc hN hi ok (by rw [ho]; exact hvs) (fun s H C cl fp => pgP (X := X.blk s H scope (compEnvC scope cl C X.env) fp) hN hc binds_blk hg) ht hi1 (fun s H C cl fp => pgP (X := X.blk s H scope (compEnvC scope cl C X.env) fp) hN hc binds_blk hg1) ht1 he (notSet_folded hs) (fun env => notSet_folded hs1)).run pins s σ H Q I ?_
  rw [ho]
  exact lc2_core' hpt hpt1 hvs hix helt I.len h
theorem psLc2 {i : Nat} {y : Str} {py spos : Pos} {own vs : List Nat} {ownP : List (Str × Nat)} {pt pt1 : Pat} {sk sk1 : SK} {src cnd src1 cnd1 : Exs} {x : Ex} {elt iter tg1 iter1 : Expr} {ifs ifs1 : List Expr} {scope : Scope} (hc : X.calm = true) (hN : X.N.Nodup) (hi : PI X tg iter (tI X.K P G sk src)) (ok : BlkOk X.N X.env.scope scope ownP)
    (ho : ownP.map (·.2) = own) (hpt : ∀ i ∈ ptVars pt, i ∈ own) (hpt1 : ∀ i ∈ ptVars pt1, i ∈ vs) (hvs : ∀ i ∈ vs, i ∈ own) (hix : ∀ i ∈ own, i < X.N.length) (helt : isB x = false) (hg : chkP X.N scope pt tg = true) (hg1 : chkP X.N scope pt1 tg1 = true)
    (ht : ∀ (s : Shared) (H : Hp) (C : Addr) (cl : List (Str × Addr)) (fp : List Addr), PTs (X.blk s H scope (compEnvC scope cl C X.env) fp) ifs (tC1 X.K P G cnd))
    (hi1 : ∀ (s : Shared) (H : Hp) (C : Addr) (cl : List (Str × Addr)) (fp : List Addr), PI (X.blk s H scope (compEnvC scope cl C X.env) fp) tg1 iter1 (tI X.K P G sk1 src1))
    (ht1 : ∀ (s : Shared) (H : Hp) (C : Addr) (cl : List (Str × Addr)) (fp : List Addr), PTs (X.blk s H scope (compEnvC scope cl C X.env) fp) ifs1 (tC1 X.K P G cnd1))
    (he : ∀ (s : Shared) (H : Hp) (C : Addr) (cl : List (Str × Addr)) (fp : List Addr), PE (X.blk s H scope (compEnvC scope cl C X.env) fp) elt (tE X.K P G x)) (hs : notSet iter = true) (hs1 : notSet iter1 = true)
    (hy : X.N[i]? = some y) (hyl : X.env.scope.names.lookup y = some .local) (hk : X.env.scope.kind = .function) (hl : (py.line == pos.line) = true) (ha : (scope.names.any fun (n, k) => n == y && (k == .local || k == .cell)) = false) :
    PS X (.Assign [.Name y py] (.ListComp elt [⟨tg, iter, ifs, 0⟩, ⟨tg1, iter1, ifs1, 0⟩] scope pos) spos) (tAsg (tO X.K P G (.lc2 own pt sk src cnd vs pt1 sk1 src1 cnd1 x)) (gName i)) := by
  refine ⟨fun pins s σ H D I h => ?_⟩
  refine (ps_setLc2 (vs1 := vs) (g := gP X.K pt) (g1 := gP X.K pt1) hc hN hy hyl (sw_true hk hyl hl ha) hi ok (by rw [ho]; exact hvs) (fun s H C cl fp => pgP (X := X.blk s H scope (compEnvC scope cl C X.env) fp) hN hc binds_blk hg) ht hi1 (fun s H C cl fp => pgP (X := X.blk s H scope (compEnvC scope cl C X.env) fp) hN hc binds_blk hg1) ht1 he (notSet_folded hs) (fun env => notSet_folded hs1)).run pins s σ H D I ?_
  rw [ho]
  exact lc2_core' hpt hpt1 hvs hix helt I.len h
end

/-! ### statements -/
mutual
/-- the names that a statement may bind -/
def asgd : Sx → List Nat
  | .asg i _ => [i]
  | .asgX i _ _ => [i]
  | .tryx b i _ => i :: asgdB b
  | .asgO i _ => [i]
  | .asgT is _ => is
  | .par is _ => is.map (·.1)
  | .parS is _ _ _ => is
  | .asgM i _ => [i]
  | .aug i _ _ => [i]
  | .ife _ a b => asgdB a ++ asgdB b
  | .whl _ a => asgdB a
  | .forr pt _ _ a => ptVars pt ++ asgdB a
  | .retL t _ => [t]
  | _ => []
def asgdB : Blk → List Nat
  | .nil => []
  | .cons s b => asgd s ++ asgdB b
end
/-- from one state to a later one -/
structure Went (H : Hp) (φ : Fp) (H' : Hp) (φ' : Fp) : Prop where
  ev : Evo H (Own φ) H'
  own : ∀ a, Own φ' a → Own φ a ∨ Fr H a
theorem Went.refl {H : Hp} {φ : Fp} : Went H φ H φ := ⟨.refl, fun _ h => .inl h⟩
theorem Went.of {H H' : Hp} {φ : Fp} (h : Evo H (Own φ) H') : Went H φ H' φ := ⟨h, fun _ h => .inl h⟩
theorem Went.trans {H H1 H2 : Hp} {φ φ1 φ2 : Fp} (h : Went H φ H1 φ1) (h' : Went H1 φ1 H2 φ2) : Went H φ H2 φ2 := by
  refine ⟨h.ev.trans h.own h'.ev, fun a ha => ?_⟩
  rcases h'.own a ha with o | o
  · exact h.own a o
  · by_cases w : Own φ a
    · exact .inl w
    · exact .inr fun u k e => o u k (h.ev.keep a u w k e)
/-- what is wanted behind it -/
def PostS (K : PySem.W.Frag) (W : WX) (σ : L2.St) (H : Hp) (φ : Fp) (as : List Nat) (fl : Flow) (en' : En) (D : Ends) : Prop :=
  ∀ σ' H' φ', EnvOk K H' σ' en' φ' → Went H φ H' φ' → (∀ j, j ∉ as → σ'[j]? = σ[j]?) → match fl with
    | .nx => D.nx σ' H'
    | .brk => D.bk σ' H'
    | .cnt => D.ct σ' H'
    | .ret d => ∀ v, Rep K H' v d → D.rt v H'
    | .retO i => ∀ v, σ'[i]? = some (some v) → D.rt v H'
    | .thr c p => ∀ cls d, ExcAt K H' cls d c p → W cls d σ' H'
section
variable (K : PySem.W.Frag) (P : Tb) (G : List D) (W : WX)
def tS (st : Sx) : TS := fun D σ H => ∃ en φ, EnvOk K H σ en φ ∧ ∃ fl en', ex P G st en = .ok (fl, en') ∧ PostS K W σ H φ (asgd st) fl en' D
def tSs (b : Blk) : TS := fun D σ H => ∃ en φ, EnvOk K H σ en φ ∧ ∃ fl en', exB P G b en = .ok (fl, en') ∧ PostS K W σ H φ (asgdB b) fl en' D
end
theorem PostS.of {K : PySem.W.Frag} {σ : L2.St} {H : Hp} {φ : Fp} {as as' : List Nat} {W : WX} {fl : Flow} {en' : En} {D : Ends} (h : PostS K W σ H φ as fl en' D) (hs : ∀ i ∈ as', i ∈ as) : PostS K W σ H φ as' fl en' D :=
  fun σ' H' φ' ok w k => h σ' H' φ' ok w fun j hj => k j fun z => hj (hs j z)
/-- a step ahead of it -/
theorem PostS.after {K : PySem.W.Frag} {σ σ1 : L2.St} {H H1 : Hp} {φ φ1 : Fp} {as as1 as2 : List Nat} {W : WX} {fl : Flow} {en' : En} {D : Ends} (h : PostS K W σ H φ as fl en' D) (w : Went H φ H1 φ1) (k1 : ∀ j, j ∉ as1 → σ1[j]? = σ[j]?) (hs : ∀ i, i ∈ as1 ∨ i ∈ as2 → i ∈ as) : PostS K W σ1 H1 φ1 as2 fl en' D :=
  fun σ' H' φ' ok w' k => h σ' H' φ' ok (w.trans w') fun j hj => (k j fun z => hj (hs j (.inr z))).trans (k1 j fun z => hj (hs j (.inl z)))
section
variable {X : Cx} {P : Tb} {G : List D} {W : WX} {pos : Pos}
/-- lists are frozen, one after another -/
def FzN : List Addr → (Hp → Prop) → Hp → Prop
  | [], T, H => T H
  | a :: as, T, H => ∃ u, H a = some u ∧ isOl u ∧ ∀ o, FzN as T (frzAt H a o u)
/-- .. ahead of a block -/
theorem pssFz {b : List Stmt} {t : TS} (h : PSs X b t) : PSs X b (fun D σ H => ∃ as, FzN as (fun H' => t D σ H') H) := by
  refine ⟨fun pins s σ H D I q => ?_⟩
  obtain ⟨as, q⟩ := q
  induction as generalizing H with
  | nil => exact h.run pins s σ H D I q
  | cons a as ih =>
    obtain ⟨u, e, hu, q⟩ := q
    obtain ⟨o, I2⟩ := inv_frz I e hu
    exact ih _ I2 (q o)
theorem pssN : PSs X [] (tSs X.K P G W .nil) := by
  refine pssImp pss_nil fun D σ H h => ?_
  obtain ⟨en, φ, ok, fl, en', he, q⟩ := h
  unfold exB at he
  cases he
  exact q σ H φ ok .refl fun _ _ => rfl
theorem pssC {st : Stmt} {b : List Stmt} {x : Sx} {y : Blk} (h1 : PS X st (tS X.K P G W x)) (h2 : PSs X b (tSs X.K P G W y)) : PSs X (st :: b) (tSs X.K P G W (.cons x y)) := by
  refine pssImp (pss_cons h1 h2) fun D σ H h => ?_
  obtain ⟨en, φ, ok, fl, en', he, q⟩ := h
  unfold exB at he
  obtain ⟨⟨f1, e1⟩, g1, he1⟩ := Res.bind_ok he
  refine ⟨en, φ, ok, f1, e1, g1, ?_⟩
  unfold asgdB at q
  cases f1 with
  | nx =>
    intro σ1 H1 φ1 ok1 w1 k1
    exact ⟨e1, φ1, ok1, fl, en', he1, q.after w1 k1 fun i hi => List.mem_append.mpr hi⟩
  | brk => cases he1; exact (q.of fun i hi => List.mem_append_left _ hi)
  | cnt => cases he1; exact (q.of fun i hi => List.mem_append_left _ hi)
  | ret d => cases he1; exact (q.of fun i hi => List.mem_append_left _ hi)
  | retO d => cases he1; exact (q.of fun i hi => List.mem_append_left _ hi)
  | thr c p => cases he1; exact (q.of fun i hi => List.mem_append_left _ hi)
/-- what a name holds of its own is frozen -/
theorem env_clr {K : PySem.W.Frag} {H H' : Hp} {σ : L2.St} {en : En} {φ : Fp} {i : Nat} {d : D} {v : V} (h : EnvOk K H σ en φ) (e1 : σ[i]? = some (some v)) (fz : FzS H H') (keep : ∀ b u, b ∉ φ i → H b = some u → H' b = some u) (r : Rep K H' v d) (tb : LamX.Tabs Wx.tabs H') :
    EnvOk K H' σ (en.set i (.fz d)) (clr φ [i]) := by
  have hi : i < en.length := by rw [← h.len]; exact (List.getElem?_eq_some_iff.mp e1).1
  refine ⟨by rw [List.length_set]; exact h.len, fun j => ?_, fun j k b hj hk => ?_, tb⟩
  · rw [getS_set]
    by_cases z : i = j
    · subst z
      rw [if_pos ⟨rfl, hi⟩]
      exact ⟨⟨v, e1, r⟩, if_pos (by simp)⟩
    · rw [if_neg fun q => z q.1, show clr φ [i] j = φ j from if_neg (by simpa using fun q => z q.symm)]
      exact slotOk_mono (h.slot j) fz fun b hb w _ eb => keep b w (fun q => z (h.dis i j b q hb)) eb
  · have f1 : b ∈ φ j := by unfold clr at hj; split at hj; cases hj; exact hj
    have f2 : b ∈ φ k := by unfold clr at hk; split at hk; cases hk; exact hk
    exact h.dis j k b f1 f2
theorem fz_rows {K : PySem.W.Frag} {T : Hp → Prop} : ∀ {bs : List Addr} {rows : List (List D)} {H : Hp}, RwsOk K H bs rows → bs.Nodup →
    (∀ H', FzS H H' → (∀ b, b ∉ bs → H' b = H b) → Reps K H' (bs.map V.ref) (rows.map D.lst) → T H') → FzN bs T H
  | _, _, H, .nil, _, q => q H (.refl H) (fun _ _ => rfl) .nil
  | _, _, H, .cons (b := b) (bs := bs) (xs := xs) (ds := ds) h r t, hn, q => by
    rw [List.nodup_cons] at hn
    refine ⟨.lst xs, h, trivial, fun o => ?_⟩
    have f1 : FzS H (frzAt H b o (.lst xs)) := fzS_frz h trivial
    refine fz_rows (t.mono f1 fun c hc u _ e => (upd_ne fun z => hn.1 (by rw [← z]; exact hc)).trans e) hn.2 fun H' f2 k2 r2 => ?_
    refine q H' (f1.trans f2) (fun c hc => ?_) (.cons (.lst (.inl ⟨o, ?_⟩) ((r.mono f1).mono f2)) r2)
    · rw [k2 c fun z => hc (List.mem_cons_of_mem _ z)]
      exact upd_ne fun z => hc (by rw [z]; exact List.mem_cons_self)
    · rw [k2 b hn.1]
      exact upd_same
/-- the ghost statement -/
theorem pssZ {i : Nat} {b : List Stmt} {y : Blk} (h2 : PSs X b (tSs X.K P G W y)) : PSs X b (tSs X.K P G W (.cons (.fz i) y)) := by
  refine pssImp (pssFz h2) fun D σ H h => ?_
  obtain ⟨en, φ, ok, fl, en', he, q⟩ := h
  unfold exB at he
  obtain ⟨⟨f1, e1⟩, g1, he1⟩ := Res.bind_ok he
  unfold ex at g1
  have fin : ∀ (v : V) (d : Vi.D) (H' : Hp), σ[i]? = some (some v) → FzS H H' → (∀ b u, b ∉ φ i → H b = some u → H' b = some u) → Rep X.K H' v d → exB P G y (en.set i (.fz d)) = .ok (fl, en') → tSs X.K P G W y D σ H' := fun v d H' s1 fz k r hez => by
    refine ⟨_, clr φ [i], env_clr ok s1 fz k r (tabs_own ok fun b u n e => k b u (fun z => n ⟨i, z⟩) e), fl, en', hez, ?_⟩
    refine q.after (as1 := []) ⟨evo_keep ok (fun b w n eb => k b w (fun z => n ⟨i, z⟩) eb) fz, fun b hb => .inl (own_clr hb)⟩ (fun _ _ => rfl) fun j hj => ?_
    unfold asgdB asgd
    rcases hj with hj | hj
    · cases hj
    · exact hj
  split at g1
  · rename_i ds e
    cases g1
    obtain ⟨a, xs, s1, s2, r, s3⟩ := ok.ow e
    refine ⟨[a], _, s2, trivial, fun o => fin _ _ _ s1 (fzS_frz s2 trivial) (fun b u hb e => (upd_ne fun z => hb (by rw [s3, z]; exact List.mem_singleton.mpr rfl)).trans e) (.lst (.inl ⟨o, upd_same⟩) (r.mono (fzS_frz s2 trivial))) he1⟩
  · rename_i ks vs e
    cases g1
    obtain ⟨a, xs, s1, s2, k, r, s3⟩ := ok.od e
    refine ⟨[a], _, s2, trivial, fun o => fin _ _ _ s1 (fzS_frz s2 trivial) (fun b u hb e => (upd_ne fun z => hb (by rw [s3, z]; exact List.mem_singleton.mpr rfl)).trans e) (.dic upd_same k (r.mono (fzS_frz s2 trivial))) he1⟩
  · rename_i rows e
    cases g1
    obtain ⟨a, bs, s1, s2, r, s3, s4⟩ := ok.om e
    rw [List.nodup_cons] at s4
    have f1 : ∀ o, FzS H (frzAt H a o (.lst (bs.map V.ref))) := fun o => fzS_frz s2 trivial
    refine ⟨a :: bs, _, s2, trivial, fun o => ?_⟩
    refine fz_rows (r.mono (f1 o) fun c hc u _ e => (upd_ne fun z => s4.1 (by rw [← z]; exact hc)).trans e) s4.2 fun H' f2 k2 r2 => ?_
    refine fin _ _ H' s1 ((f1 o).trans f2) (fun b u hb e => ?_) (.lst (.inl ⟨o, ?_⟩) r2) he1
    · rw [s3, List.mem_cons, not_or] at hb
      rw [k2 b hb.2]
      exact (upd_ne hb.1).trans e
    · rw [k2 a s4.1]
      exact upd_same
  · cases g1
end
end Vi

/-! Vi, part 14m: lists of lists of one's own; a range downwards. -/
namespace Vi
open PySem PySem.Spec PyProof.Rows
open L2
variable [Wx]
theorem downD_len (lo : Int) (n : Nat) : (downD lo n).length = n := by simp [downD]
theorem downD_get {lo : Int} {n i : Nat} {d : D} (h : (downD lo n)[i]? = some d) : d = .int (lo + i * (-1)) := by
  unfold downD at h
  rw [List.getElem?_map] at h
  obtain ⟨k, e1, e2⟩ := Option.map_eq_some_iff.mp h
  rw [List.getElem?_range (by
    rcases Nat.lt_or_ge i n with q | q
    · exact q
    · rw [List.getElem?_eq_none (by simpa using q)] at e1; cases e1)] at e1
  cases e1
  exact e2.symm
theorem wlk_down {K : PySem.W.Frag} {H : Hp} (lo : Int) (n : Nat) : Wlk K (Itc lo (-1) n) (downD lo n) H := by
  refine ⟨fun _ => True, YFn fun i => .int (lo + (i : Nat) * (-1)), ?_, trivial, fun _ _ _ _ => trivial, fun i H1 x H2 d hi g hd y => ?_⟩
  · rw [downD_len]
    exact walk_rangeC
  · obtain ⟨rfl, rfl⟩ := y
    rw [downD_get hd]
    exact ⟨.refl _, .int _⟩
theorem srcI_rngd {ds its : List D} (h : srcI .rngd ds = .ok its) : ∃ i j, ds = [.int i, .int j, .int (-1)] ∧ big62 i = true ∧ big62 j = true ∧ (i - j).toNat ≤ line ∧ its = downD i (i - j).toNat := by
  unfold srcI at h
  split at h <;> first
    | contradiction
    | (cases h; done)
    | (split at h
       · rename_i z
         cases h
         obtain ⟨rfl, z1, z2, z3⟩ := z
         exact ⟨_, _, rfl, z1, z2, z3, rfl⟩
       · cases h)
section
variable {X : Cx} {P : Tb} {G : List D} {pos p : Pos} {tg : Expr}
theorem piRd {a b c : Expr} {xs : Exs} (hg : Gl X "range") (hm : X.mg "range" = none) (ha : PA X [a, b, c] (tA X.K P G xs)) (hs : noStar a = true) (hs2 : noStar b = true) (hs3 : noStar c = true) (hb : noB xs = true) : PI X tg (.Call (.Name "range" p) [a, b, c] [] pos) (tI X.K P G .rngd xs) := by
  refine piImp (pi_range3 hg hm ha (star1 hs) (starAny (by simp [hs2, hs3]))) fun σ H R q => ?_
  obtain ⟨en, φ, ok, ds, en', its, h1, h2, q⟩ := q
  refine ⟨en, φ, ok, ds, en', h1, fun vs H1 ok1 ev1 v1 => ?_⟩
  have r := vls_reps v1 hb
  obtain ⟨i, j, rfl, b1, b2, b3, rfl⟩ := srcI_rngd h2
  cases r with
  | cons r1 r2 =>
    cases r2 with
    | cons r2 r3 =>
      cases r3 with
      | cons r3 r4 =>
        cases r4
        cases r1
        cases r2
        cases r3
        obtain ⟨z1, z2⟩ := big62_ok b1
        obtain ⟨z3, z4⟩ := big62_ok b2
        exact ⟨i, j, -1, (i - j).toNat, rfl, .neg z1 z2 z3 z4, q _ H1 ok1 ev1 (wlk_down i _) (by rw [downD_len]; exact b3)⟩
/-! [[..] for ..], each a list of one's own -/
theorem rowsD_of : ∀ {ds : List D} {rows : List (List D)}, rowsD ds = .ok rows → ds = rows.map D.lst
  | [], rows, h => by cases h; rfl
  | d :: ds, rows, h => by
    cases d <;> try (simp [rowsD] at h; done)
    unfold rowsD at h
    obtain ⟨r, h1, h2⟩ := Res.bind_ok h
    cases h2
    rw [rowsD_of h1]; rfl
theorem rowsD_map : ∀ rows : List (List D), rowsD (rows.map D.lst) = .ok rows
  | [] => rfl
  | r :: rows => by
    show (rowsD (rows.map D.lst) >>= fun q => .ok (r :: q)) = _
    rw [rowsD_map rows]; rfl
/-- a new list of new lists -/
def ValM (K : PySem.W.Frag) (H H' : Hp) (v : V) (rows : List (List D)) : Prop := ∃ a bs, v = .ref a ∧ (∀ b ∈ a :: bs, Fr H b) ∧ (a :: bs).Nodup ∧ H' a = some (.lst (bs.map V.ref)) ∧ RwsOk K H' bs rows
def tMx (K : PySem.W.Frag) (P : Tb) (G : List D) (x : Ex) : TE := fun σ H Q => ∃ en φ, EnvOk K H σ en φ ∧ ∃ rows en', ev P G x en = .ok (.lst (rows.map D.lst), en') ∧ ∀ v H', EnvOk K H' σ en' φ → Evo H (Own φ) H' → ValM K H H' v rows → Q v H'
theorem ev_lcm (own : List Nat) (pt : Pat) (sk : SK) (src cnd : Exs) (elt : Ex) (en : En) : ev P G (.lcm own pt sk src cnd elt) en = (do
    let r ← evs P G src en
    let its ← srcI sk r.1
    let q ← lcGo (stepLc P G own pt cnd elt) its (wipeE own r.2)
    return (.lst q.1, backE r.2 own q.2)) := by unfold ev; rfl
theorem RwsOk.snoc {K : PySem.W.Frag} {H : Hp} {b : Addr} {xs : List V} {ds : List D} (h : H b = some (.lst xs)) (r : Reps K H xs ds) : ∀ {bs : List Addr} {rows : List (List D)}, RwsOk K H bs rows → RwsOk K H (bs ++ [b]) (rows ++ [ds])
  | _, _, .nil => .cons h r .nil
  | _, _, .cons h1 r1 t => .cons h1 r1 (t.snoc h r)
theorem lcm_core' {own : List Nat} {pt : Pat} {sk : SK} {src cnd : Exs} {elt : Ex} (hpt : ∀ i ∈ ptVars pt, i ∈ own) (hix : ∀ i ∈ own, i < X.N.length) {σ : L2.St} {H : Hp} {Q : VK} (hσ : σ.length = X.N.length) (h : tMx X.K P G (.lcm own pt sk src cnd elt) σ H Q) :
    tLc (tI X.K P G sk src) (gP X.K pt) (tC1 X.K P G cnd) (tO X.K P G elt) own σ H Q := by
  obtain ⟨en, φ, ok, rowsT, en', he, q⟩ := h
  rw [ev_lcm] at he
  obtain ⟨⟨ds, e1⟩, f1, he1⟩ := Res.bind_ok he
  obtain ⟨its, f2, he2⟩ := Res.bind_ok he1
  obtain ⟨⟨total, enF⟩, f3, he3⟩ := Res.bind_ok he2
  have htT : total = rowsT.map D.lst := by
    have := congrArg (fun r : Res (D × En) => match r with | .ok (.lst l, _) => l | _ => []) he3
    exact this
  subst htT
  cases he3
  refine ⟨en, φ, ok, ds, e1, its, f1, f2, fun J H1 ok1 ev1 wl hlen => ?_⟩
  intro D hD
  obtain ⟨Gd, Y, hW, g0, gst, gy⟩ := wl
  have noD : ∀ {φ' : Fp}, (∀ a, Own φ' a → Own φ a) → ¬ Own φ' D := fun s o => by
    obtain ⟨ys, z, _⟩ := ok1.own (s D o)
    rw [hD] at z; cases z
  have subc : ∀ a, Own (clr φ own) a → Own φ a := fun a o => own_clr o
  have noB : ∀ {b : Addr}, Fr H1 b → ¬ Own (clr φ own) b := fun hb o => by
    obtain ⟨ys, z, hw⟩ := ok1.own (subc _ o)
    exact hb _ (ow_nT hw) z
  refine lc_it hW (Pv := fun i H => ∃ ei acc bs rest, H D = some (.lst (bs.map V.ref)) ∧ RwsOk X.K H bs acc ∧ (∀ b ∈ bs, Fr H1 b ∧ b ≠ D) ∧ bs.Nodup ∧ acc.length ≤ i ∧ EnvOk X.K H (wipe σ own) ei (clr φ own) ∧ Evo H1 (Own (clr φ own)) H ∧ Gd H ∧
      lcGo (stepLc P G own pt cnd elt) (its.drop i) ei = .ok (rest, enF) ∧ acc.map Vi.D.lst ++ rest = rowsT.map Vi.D.lst) ?_ ?_ ?_ ?_
  · refine ⟨wipeE own e1, [], [], _, upd_same, .nil, (fun _ h => nomatch h), .nil, Nat.le_refl _, ?_, .of (same_upd hD), gst _ _ g0 (.of (same_upd hD)), f3, rfl⟩
    exact (env_wipe ok1 own).mono (same_upd hD)
  · rintro i H2 _ ⟨_, _, _, _, _, _, _, _, _, _, _, g, _⟩
    exact g
  · rintro i x H2 H3 hi ⟨ei, acc, bs, rest, hx, rx, hbs, hnd, hai, oki, evi, gi, hgo, htot⟩ hy
    have hget : its[i]? = some its[i] := List.getElem?_eq_getElem hi
    obtain ⟨sm, rx0⟩ := gy i H2 x H3 its[i] hi gi hget hy
    rw [List.drop_eq_getElem_cons hi] at hgo
    unfold lcGo at hgo
    obtain ⟨⟨yo, e2⟩, s1, hgo1⟩ := Res.bind_ok hgo
    obtain ⟨⟨rest', e3⟩, s2, hgo2⟩ := Res.bind_ok hgo1
    cases hgo2
    obtain ⟨eb, b1, s3⟩ := Res.bind_ok s1
    obtain ⟨⟨cs, e4⟩, b2, s4⟩ := Res.bind_ok s3
    obtain ⟨k, b3, s5⟩ := Res.bind_ok s4
    have lei : ei.length = X.N.length := by rw [← oki.len, wipe_length, hσ]
    refine gP_ok (oki.mono sm) rx0 b1 (fun j hj => by rw [lei]; exact hix j (hpt j hj)) fun σ2 ok2 hk2 => ?_
    rw [clr_clr φ hpt] at ok2
    have l2 : σ2.length = (wipe σ own).length := by rw [ok2.len, bindP_len b1, oki.len]
    have w2 : wipe σ2 own = wipe σ own := by
      rw [wipe_eq (own := own) l2 fun j hj => hk2 j fun z => hj (hpt j z)]
      refine wipe_eq (wipe_length _ _) fun j hj => wipe_out hj
    have hx3 : H3 D = some (.lst (bs.map V.ref)) := sm _ _ hx
    refine ⟨w2, eb, clr φ own, ok2, cs, k, e4, b2, b3, fun H4 ok4 ev4 => ?_⟩
    have hx4 : H4 D = some (.lst (bs.map V.ref)) := ev4.keep D _ (noD subc) (fun _ z => nomatch z) hx3
    have ev14 : Evo H1 (Own (clr φ own)) H4 := (evi.trans' (.of sm)).trans' ev4
    have rx4 : RwsOk X.K H4 bs acc := (rx.mono (.of sm) fun b _ u _ e => sm _ _ e).mono ev4.fz fun b hb u i e => ev4.keep b u (noB (hbs b hb).1) (ow_nT i) e
    cases k with
    | true =>
      obtain ⟨⟨y, e5⟩, b4, s6⟩ := Res.bind_ok s5
      cases s6
      dsimp only
      rw [if_pos rfl]
      refine ⟨e4, clr φ own, ok4, y, e5, b4, fun w H5 ok5 ev5 v5 => ?_⟩
      have hx5 : H5 D = some (.lst (bs.map V.ref)) := ev5.keep D _ (noD subc) (fun _ z => nomatch z) hx4
      have fzD : ∀ zs, FzS H5 (upd H5 D (.lst zs)) := fun zs => fzS_upd fun u e f => by rw [hx5] at e; cases e; exact f
      -- the item is a list
      have hyl : ∃ row, y = .lst row := by
        have h0 : y ∈ rowsT.map Vi.D.lst := by rw [← htot]; exact List.mem_append_right _ List.mem_cons_self
        obtain ⟨row, _, e⟩ := List.mem_map.mp h0
        exact ⟨row, e.symm⟩
      obtain ⟨row, rfl⟩ := hyl
      obtain ⟨b, us, rfl, hb0, hb1, rb⟩ := v5
      have nbD : b ≠ D := fun z => hb0 (.lst (bs.map V.ref)) (fun _ z => nomatch z) (by rw [z]; exact hx4)
      have nbs : b ∉ bs := fun z => by
        obtain ⟨xs, hz⟩ := rx4.lst b z
        exact hb0 (.lst xs) (fun _ z => nomatch z) hz
      have hb1' : Fr H1 b := none_before ok4 ev14 hb0
      refine ⟨bs.map V.ref, hx5, ?_, ?_⟩
      · rw [List.length_map, rx.len, ← line_eq]
        omega
      · refine ⟨wipeE own e5, acc ++ [row], bs ++ [b], rest', ?_, ?_, ?_, ?_, ?_, ?_, ?_, ?_, s2, ?_⟩
        · rw [List.map_append]; exact upd_same
        · have r5 : RwsOk X.K H5 bs acc := rx4.mono ev5.fz fun c hc u i e => ev5.keep c u (noB (hbs c hc).1) (ow_nT i) e
          exact (r5.snoc hb1 rb).mono (fzD _) fun c hc u _ e => (upd_ne (fun z => by
            rcases List.mem_append.mp hc with hc | hc
            · exact (hbs c hc).2 z
            · exact nbD ((List.mem_singleton.mp hc) ▸ z))).trans e
        · intro c hc
          rcases List.mem_append.mp hc with hc | hc
          · exact hbs c hc
          · rw [List.mem_singleton.mp hc]
            exact ⟨hb1', nbD⟩
        · rw [List.nodup_append]
          exact ⟨hnd, by simp, fun c hc e he => by rw [List.mem_singleton.mp he]; exact fun z => nbs (z ▸ hc)⟩
        · rw [List.length_append]
          simp only [List.length_cons, List.length_nil]
          omega
        · have z := env_wipe ok5 own
          rw [w2, clr_clr φ (fun i hi => hi)] at z
          exact env_upd z hx5 (noD subc)
        · have ev15 := ev14.trans' ev5
          exact evo_updD ev15 (.of hD) hx5 (fzD _)
        · exact gst _ _ (gst _ _ (gst _ _ (gst _ _ gi (.of sm)) ev4.fz) ev5.fz) (fzD _)
        · rw [List.map_append, List.append_assoc]
          exact htot
    | false =>
      cases s5
      dsimp only
      rw [if_neg Bool.false_ne_true]
      refine ⟨wipeE own e4, acc, bs, rest', hx4, rx4, hbs, hnd, Nat.le_succ_of_le hai, ?_, ev14, gst _ _ (gst _ _ gi (.of sm)) ev4.fz, s2, htot⟩
      have z := env_wipe ok4 own
      rw [w2, clr_clr φ (fun i hi => hi)] at z
      exact z
  · rintro H2 ⟨ei, acc, bs, rest, hx, rx, hbs, hnd, hai, oki, evi, gi, hgo, htot⟩
    rw [List.drop_length] at hgo
    cases hgo
    rw [List.append_nil] at htot
    have : acc = rowsT := by
      have h1 := rowsD_map acc
      rw [htot, rowsD_map] at h1
      cases h1; rfl
    subst this
    have hD0 := none_before ok1 ev1 (.of hD)
    refine q _ H2 (env_back ok1 oki evi) (ev1.trans' (evi.sub subc)) ⟨D, bs, rfl, fun b hb => ?_, ?_, hx, rx⟩
    · rcases List.mem_cons.mp hb with rfl | hb
      · exact hD0
      · exact none_before ok1 ev1 (hbs b hb).1
    · rw [List.nodup_cons]
      exact ⟨fun z => (hbs D z).2 rfl, hnd⟩
theorem peLcM {own : List Nat} {ownP : List (Str × Nat)} {pt : Pat} {sk : SK} {src cnd : Exs} {x : Ex} {elt iter : Expr} {ifs : List Expr} {scope : Scope} (hc : X.calm = true) (hN : X.N.Nodup) (hi : PI X tg iter (tI X.K P G sk src)) (ok : BlkOk X.N X.env.scope scope ownP)
    (ho : ownP.map (·.2) = own) (hpt : ∀ i ∈ ptVars pt, i ∈ own) (hix : ∀ i ∈ own, i < X.N.length) (hg : chkP X.N scope pt tg = true)
    (ht : ∀ (s : Shared) (H : Hp) (C : Addr) (cl : List (Str × Addr)) (fp : List Addr), PTs (X.blk s H scope (compEnvC scope cl C X.env) fp) ifs (tC1 X.K P G cnd))
    (he : ∀ (s : Shared) (H : Hp) (C : Addr) (cl : List (Str × Addr)) (fp : List Addr), PE (X.blk s H scope (compEnvC scope cl C X.env) fp) elt (tO X.K P G x)) (hs : notSet iter = true) :
    PE X (.ListComp elt [⟨tg, iter, ifs, 0⟩] scope pos) (tMx X.K P G (.lcm own pt sk src cnd x)) := by
  refine ⟨fun pins s σ H Q I h => ?_⟩
  refine (pe_lc (g := gP X.K pt) hc hN hi ok (fun s H C cl fp => pgP (X := X.blk s H scope (compEnvC scope cl C X.env) fp) hN hc binds_blk hg) ht he (notSet_folded hs)).run pins s σ H Q I ?_
  rw [ho]
  exact lcm_core' hpt hix I.len h
theorem psLcM {i : Nat} {y : Str} {py spos : Pos} {own : List Nat} {ownP : List (Str × Nat)} {pt : Pat} {sk : SK} {src cnd : Exs} {x : Ex} {elt iter : Expr} {ifs : List Expr} {scope : Scope} (hc : X.calm = true) (hN : X.N.Nodup) (hi : PI X tg iter (tI X.K P G sk src)) (ok : BlkOk X.N X.env.scope scope ownP)
    (ho : ownP.map (·.2) = own) (hpt : ∀ i ∈ ptVars pt, i ∈ own) (hix : ∀ i ∈ own, i < X.N.length) (hg : chkP X.N scope pt tg = true)
    (ht : ∀ (s : Shared) (H : Hp) (C : Addr) (cl : List (Str × Addr)) (fp : List Addr), PTs (X.blk s H scope (compEnvC scope cl C X.env) fp) ifs (tC1 X.K P G cnd))
    (he : ∀ (s : Shared) (H : Hp) (C : Addr) (cl : List (Str × Addr)) (fp : List Addr), PE (X.blk s H scope (compEnvC scope cl C X.env) fp) elt (tO X.K P G x)) (hs : notSet iter = true)
    (hy : X.N[i]? = some y) (hyl : X.env.scope.names.lookup y = some .local) (hk : X.env.scope.kind = .function) (hl : (py.line == pos.line) = true) (ha : (scope.names.any fun (n, k) => n == y && (k == .local || k == .cell)) = false) :
    PS X (.Assign [.Name y py] (.ListComp elt [⟨tg, iter, ifs, 0⟩] scope pos) spos) (tAsg (tMx X.K P G (.lcm own pt sk src cnd x)) (gName i)) := by
  refine ⟨fun pins s σ H D I h => ?_⟩
  refine (ps_setLc (g := gP X.K pt) hc hN hy hyl (sw_true hk hyl hl ha) hi ok (fun s H C cl fp => pgP (X := X.blk s H scope (compEnvC scope cl C X.env) fp) hN hc binds_blk hg) ht he (notSet_folded hs)).run pins s σ H D I ?_
  rw [ho]
  exact lcm_core' hpt hix I.len h
/-- .. bound to a name -/
theorem env_ownM {K : PySem.W.Frag} {H : Hp} {σ : L2.St} {en : En} {φ : Fp} {i : Nat} {a : Addr} {bs : List Addr} {rows : List (List Vi.D)} (h : EnvOk K H σ en φ) (ha : H a = some (.lst (bs.map V.ref))) (r : RwsOk K H bs rows) (hn : (a :: bs).Nodup) (hi : i < en.length) (no : ∀ b ∈ a :: bs, ¬ Own φ b) :
    EnvOk K H (σ.set i (some (.ref a))) (en.set i (.om rows)) (fun j => if j = i then a :: bs else φ j) := by
  refine ⟨by rw [List.length_set, List.length_set]; exact h.len, fun j => ?_, fun j k b hj hk => ?_, h.tb⟩
  · rw [getS_set]
    by_cases z : i = j
    · subst z
      rw [if_pos ⟨rfl, hi⟩, List.getElem?_set_self (by rw [h.len]; exact hi), if_pos rfl]
      exact ⟨a, bs, rfl, ha, r, rfl, hn⟩
    · rw [if_neg (fun q => z q.1), List.getElem?_set_ne z, if_neg fun q => z q.symm]
      exact h.slot j
  · replace hj : b ∈ (if j = i then a :: bs else φ j) := hj
    replace hk : b ∈ (if k = i then a :: bs else φ k) := hk
    by_cases z1 : j = i <;> by_cases z2 : k = i
    · rw [z1, z2]
    · rw [if_pos z1] at hj
      rw [if_neg z2] at hk
      exact absurd ⟨k, hk⟩ (no b hj)
    · rw [if_neg z1] at hj
      rw [if_pos z2] at hk
      exact absurd ⟨j, hj⟩ (no b hk)
    · rw [if_neg z1] at hj
      rw [if_neg z2] at hk
      exact h.dis j k b hj hk
end
end Vi

/-! Vi, part 15: the forms of statements, one by one. -/
namespace Vi
open PySem PySem.Spec PyProof.Rows
open L2
variable [Wx]

def notComp : Expr → Bool
  | .ListComp _ _ _ _ => false
  | .SetComp _ _ _ _ => false
  | .DictComp _ _ _ _ _ => false
  | _ => true
theorem swaps_no {e : Expr} {tg : Option Expr} {l : Nat} {env : Env} (h : notComp e = true) : swapsWith e tg l env = pure false := by
  cases e <;> first | rfl | cases h
section
variable {X : Cx} {P : Tb} {G : List D} {W : WX} {pos : Pos}
theorem lt_of_slot {σ : L2.St} {en : En} {K : PySem.W.Frag} {H : Hp} {φ : Fp} {i : Nat} (ok : EnvOk K H σ en φ) (hσ : σ.length = X.N.length) (hi : i < X.N.length) : i < en.length := by rw [← ok.len, hσ]; exact hi
/-- σ has its length in every state -/
theorem psLen {st : Stmt} {t t' : TS} (h : PS X st t) (i : ∀ D σ H, σ.length = X.N.length → t' D σ H → t D σ H) : PS X st t' := ⟨fun pins s σ H D I q => h.run pins s σ H D I (i D σ H I.len q)⟩
theorem set_out {σ : L2.St} {i j : Nat} {v : Option V} {as : List Nat} (hj : j ∉ as) (hi : i ∈ as) : (σ.set i v)[j]? = σ[j]? := List.getElem?_set_ne fun z => hj (by rw [← z]; exact hi)
/-! name = e -/
theorem psAsg {i : Nat} {y : Str} {py : Pos} {e : Expr} {x : Ex} (hN : X.N.Nodup) (hi : X.N[i]? = some y) (hx : Loc X.env.scope y) (hf : X.fn y = true ∨ X.env.scope.names.lookup y = some .local) (he : PE X e (tE X.K P G x)) (hb : isB x = false) (hc : swapsWith e (some (.Name y py)) pos.line X.env = pure false) :
    PS X (.Assign [.Name y py] e pos) (tS X.K P G W (.asg i x)) := by
  refine psLen (ps_set hN hi hx he hc hf) fun D σ H hσ h => ?_
  obtain ⟨en, φ, ok, fl, en', he, q⟩ := h
  unfold ex at he
  obtain ⟨⟨d, e1⟩, f1, he1⟩ := Res.bind_ok he
  cases he1
  refine ⟨en, φ, ok, d, e1, f1, fun v H1 ok1 ev1 v1 => ?_⟩
  have hil := lt_of_slot ok1 hσ (List.getElem?_eq_some_iff.mp hi).1
  exact q _ H1 _ (env_set ok1 (val_rep hb v1) hil) ⟨ev1, fun a ha => .inl (own_clr ha)⟩ fun j hj => set_out hj (by simp [asgd])
/-- .. to a new list of its own -/
theorem asgO_post {i : Nat} {y : Str} (hi : X.N[i]? = some y) {x : Ex} {D : Ends} {σ : L2.St} {H : Hp} (hσ : σ.length = X.N.length) (h : tS X.K P G W (.asgO i x) D σ H) : tO X.K P G x σ H fun v H1 => gName i v σ H1 D.nx := by
  obtain ⟨en, φ, ok, fl, en', he, q⟩ := h
  unfold ex at he
  obtain ⟨⟨d, e1⟩, f1, he1⟩ := Res.bind_ok he
  cases d <;> try cases he1
  · refine ⟨en, φ, ok, _, e1, f1, fun v H1 ok1 ev1 v1 => ?_⟩
    have hil := lt_of_slot ok1 hσ (List.getElem?_eq_some_iff.mp hi).1
    obtain ⟨a, ys, rfl, hn, h1, r⟩ := v1
    have no : ¬ Own φ a := fun z => by
      obtain ⟨w, e, hw⟩ := ok.own z
      exact hn _ (ow_nT hw) e
    refine q _ H1 _ (env_own ok1 h1 r hil no) ⟨ev1, fun b hb => ?_⟩ fun j hj => set_out hj (by simp [asgd])
    obtain ⟨k, hk⟩ := hb
    unfold ownAt at hk
    split at hk
    · rw [List.mem_singleton.mp hk]
      exact .inr hn
    · exact .inl ⟨k, hk⟩
  · refine ⟨en, φ, ok, _, e1, f1, fun v H1 ok1 ev1 v1 => ?_⟩
    have hil := lt_of_slot ok1 hσ (List.getElem?_eq_some_iff.mp hi).1
    obtain ⟨a, ys, rfl, hn, h1, hk, r⟩ := v1
    have no : ¬ Own φ a := fun z => by
      obtain ⟨w, e, hw⟩ := ok.own z
      exact hn _ (ow_nT hw) e
    refine q _ H1 _ (env_ownD ok1 h1 hk r hil no) ⟨ev1, fun b hb => ?_⟩ fun j hj => set_out hj (by simp [asgd])
    obtain ⟨k, hk⟩ := hb
    unfold ownAt at hk
    split at hk
    · rw [List.mem_singleton.mp hk]
      exact .inr hn
    · exact .inl ⟨k, hk⟩
theorem psAsgO {i : Nat} {y : Str} {py : Pos} {e : Expr} {x : Ex} (hN : X.N.Nodup) (hi : X.N[i]? = some y) (hx : Loc X.env.scope y) (hf : X.fn y = true ∨ X.env.scope.names.lookup y = some .local) (he : PE X e (tO X.K P G x)) (hc : swapsWith e (some (.Name y py)) pos.line X.env = pure false) :
    PS X (.Assign [.Name y py] e pos) (tS X.K P G W (.asgO i x)) :=
  psLen (ps_set hN hi hx he hc hf) fun D σ H hσ h => asgO_post hi hσ h
theorem psAsgO' {i : Nat} {y : Str} {st : Stmt} {x : Ex} (hi : X.N[i]? = some y) (h : PS X st (tAsg (tO X.K P G x) (gName i))) : PS X st (tS X.K P G W (.asgO i x)) :=
  psLen h fun D σ H hσ h => asgO_post hi hσ h
/-- .. to a new list of new lists -/
theorem asgM_post {i : Nat} {y : Str} (hi : X.N[i]? = some y) {x : Ex} {D : Ends} {σ : L2.St} {H : Hp} (hσ : σ.length = X.N.length) (h : tS X.K P G W (.asgM i x) D σ H) : tMx X.K P G x σ H fun v H1 => gName i v σ H1 D.nx := by
  obtain ⟨en, φ, ok, fl, en', he, q⟩ := h
  unfold ex at he
  obtain ⟨⟨d, e1⟩, f1, he1⟩ := Res.bind_ok he
  cases d <;> try cases he1
  rename_i xs
  obtain ⟨rows, f2, he2⟩ := Res.bind_ok he1
  cases he2
  obtain rfl := rowsD_of f2
  refine ⟨en, φ, ok, rows, e1, f1, fun v H1 ok1 ev1 v1 => ?_⟩
  have hil := lt_of_slot ok1 hσ (List.getElem?_eq_some_iff.mp hi).1
  obtain ⟨a, bs, rfl, hn, hd, h1, r⟩ := v1
  have no : ∀ b ∈ a :: bs, ¬ Own φ b := fun b hb z => by
    obtain ⟨w, e, hw⟩ := ok.own z
    exact (hn b hb) _ (ow_nT hw) e
  refine q _ H1 _ (env_ownM ok1 h1 r hd hil no) ⟨ev1, fun b hb => ?_⟩ fun j hj => set_out hj (by simp [asgd])
  obtain ⟨k, hk⟩ := hb
  replace hk : b ∈ (if k = i then a :: bs else φ k) := hk
  split at hk
  · exact .inr (hn b hk)
  · exact .inl ⟨k, hk⟩
theorem psAsgM {i : Nat} {y : Str} {py : Pos} {e : Expr} {x : Ex} (hN : X.N.Nodup) (hi : X.N[i]? = some y) (hx : Loc X.env.scope y) (hf : X.fn y = true ∨ X.env.scope.names.lookup y = some .local) (he : PE X e (tMx X.K P G x)) (hc : swapsWith e (some (.Name y py)) pos.line X.env = pure false) :
    PS X (.Assign [.Name y py] e pos) (tS X.K P G W (.asgM i x)) :=
  psLen (ps_set hN hi hx he hc hf) fun D σ H hσ h => asgM_post hi hσ h
theorem psAsgM' {i : Nat} {y : Str} {st : Stmt} {x : Ex} (hi : X.N[i]? = some y) (h : PS X st (tAsg (tMx X.K P G x) (gName i))) : PS X st (tS X.K P G W (.asgM i x)) :=
  psLen h fun D σ H hσ h => asgM_post hi hσ h
/-! the object that is made -/
def putAll : List (Str × V) → List Str → List V → List (Str × V)
  | fs, f :: ns, v :: vs => putAll (putF f v fs) ns vs
  | fs, _, _ => fs
theorem putF_new : ∀ {fs : List (Str × V)} {f : Str} {v : V}, f ∉ fs.map (·.1) → putF f v fs = fs ++ [(f, v)]
  | [], f, v, _ => rfl
  | (g, w) :: fs, f, v, h => by
    rw [List.map_cons, List.mem_cons, not_or] at h
    have hg : ¬ g = f := fun z => h.1 z.symm
    unfold putF
    rw [if_neg hg, putF_new h.2]; rfl
theorem putF_len (f : Str) (v : V) : ∀ fs : List (Str × V), (putF f v fs).length ≤ fs.length + 1
  | [] => Nat.le_refl _
  | (g, w) :: fs => by
    unfold putF
    split
    · simp
    · have := putF_len f v fs
      simp only [List.length_cons]
      omega
theorem putAll_zip : ∀ (ns : List Str) (vs : List V) (fs : List (Str × V)), vs.length = ns.length → (fs.map (·.1) ++ ns).Nodup → putAll fs ns vs = fs ++ ns.zip vs
  | [], vs, fs, hl, hn => by
    have : vs = [] := List.eq_nil_of_length_eq_zero hl
    subst this
    simp [putAll]
  | f :: ns, [], fs, hl, hn => by cases hl
  | f :: ns, v :: vs, fs, hl, hn => by
    have hf : f ∉ fs.map (·.1) := fun z => by
      rw [List.nodup_append] at hn
      exact hn.2.2 f z f List.mem_cons_self rfl
    show putAll (putF f v fs) ns vs = _
    rw [putF_new hf, putAll_zip ns vs _ (by simpa using hl) (by rw [List.map_append, List.append_assoc]; exact hn), List.append_assoc]
    rfl
/-- self.f = x for each field -/
def stores : List Str → List Str → List Stmt → Bool
  | [], [], [] => true
  | f :: ns, x :: xs, .Assign [.Attribute (.Name s _) g _] (.Name y _) _ :: l => decide (g = f) && decide (y = x) && stores ns xs l
  | _, _, _ => false
def selfs (s : Str) : List Stmt → Bool
  | [] => true
  | .Assign [.Attribute (.Name s' _) _ _] _ _ :: l => decide (s' = s) && selfs s l
  | _ => false
def valsAt : L2.St → List Nat → List V → Prop
  | _, [], [] => True
  | σ, i :: is, v :: vs => σ[i]? = some (some v) ∧ valsAt σ is vs
  | _, _, _ => False
theorem stores_run {s : Str} {C : Addr} (h0 : X.N[0]? = some s) (hv0 : Vis X.env.scope s) (hs1 : (s == ("__debug__" : Str)) = false) (hs2 : (s == ("__classdict__" : Str)) = false) (cl : Cls X.K C) : ∀ (ns xs : List Str) (is : List Nat) (l : List Stmt), stores ns xs l = true → selfs s l = true → (∀ f ∈ ns, NoAttr X.K C f) →
    is.length = xs.length → (∀ (k i : Nat) (x : Str), is[k]? = some i → xs[k]? = some x → X.N[i]? = some x ∧ Vis X.env.scope x ∧ (x == ("__debug__" : Str)) = false ∧ (x == ("__classdict__" : Str)) = false) →
    PSs X l (fun D σ H => ∃ p dx fs vs, σ[0]? = some (some (.ref p)) ∧ H p = some (.ins C dx fs) ∧ fs.length + ns.length < 1000 ∧ valsAt σ is vs ∧ vs.length = ns.length ∧ D.nx σ (upd H p (.ins C dx (putAll fs ns vs))))
  | [], xs, is, l, h, _, _, hl, _ => by
    cases xs with
    | cons _ _ => simp [stores] at h
    | nil =>
      cases l with
      | cons _ _ => simp [stores] at h
      | nil =>
        refine pssImp pss_nil fun D σ H h => ?_
        obtain ⟨p, dx, fs, vs, h1, h2, _, _, h4, h5⟩ := h
        have : vs = [] := List.eq_nil_of_length_eq_zero h4
        subst this
        have e : upd H p (.ins C dx (putAll fs [] [])) = H := by
          funext b
          by_cases z : b = p
          · subst z; rw [upd_same]; exact h2.symm
          · rw [upd_ne z]
        rw [e] at h5
        exact h5
  | f :: ns, xs, is, l, h, hse, ha, hl, hx => by
    cases xs with
    | nil => simp [stores] at h
    | cons x xs =>
      cases is with
      | nil => cases hl
      | cons i is =>
        unfold stores at h
        split at h
        · rename_i e1 _
          cases e1
        · rename_i f' ns' x' xs' s' p1 g p2 y p3 p4 l' e1 e2
          cases e1
          cases e2
          simp only [Bool.and_eq_true, decide_eq_true_eq] at h
          obtain ⟨⟨rfl, rfl⟩, h3⟩ := h
          simp only [selfs, Bool.and_eq_true, decide_eq_true_eq] at hse
          obtain ⟨rfl, hse⟩ := hse
          obtain ⟨x1, x2, x3, x4⟩ := hx 0 i _ rfl rfl
          have ih := stores_run h0 hv0 hs1 hs2 cl ns xs is l' h3 hse (fun f hf => ha f (List.mem_cons_of_mem _ hf)) (by simpa using hl) (fun k j z hk hz => hx (k + 1) j z hk hz)
          refine pssImp (pss_cons (ps_fld (pe_var h0 hv0 hs1 hs2) (pe_var x1 x2 x3 x4) rfl) ih) fun D σ H hh => ?_
          obtain ⟨p, dx, fs, vs, h1, h2, h4, h5, h6, h7⟩ := hh
          cases vs with
          | nil => cases h6
          | cons v vs =>
            refine ⟨v, h5.1, .ref p, h1, p, C, dx, fs, rfl, h2, cl, ha _ List.mem_cons_self, by simp only [List.length_cons] at h4; omega, ?_⟩
            refine ⟨p, dx, putF g v fs, vs, h1, upd_same, ?_, h5.2, by simpa using h6, ?_⟩
            · have : (putF g v fs).length ≤ fs.length + 1 := putF_len g v fs
              simp only [List.length_cons] at h4
              omega
            · rw [upd_upd]
              exact h7
        · cases h
theorem fzAt_ok {K : PySem.W.Frag} {H : Hp} {σ : L2.St} {en : En} {φ : Fp} (ok : EnvOk K H σ en φ) : ∀ {is : List Nat} {ds : List Vi.D}, fzAt en is = some ds → ∃ vs, valsAt σ is vs ∧ Reps K H vs ds ∧ vs.length = is.length
  | [], ds, h => by cases h; exact ⟨[], trivial, .nil, rfl⟩
  | i :: is, ds, h => by
    unfold fzAt at h
    split at h
    · rename_i d r h1 h2
      cases h
      obtain ⟨vs, a, b, c⟩ := fzAt_ok ok h2
      obtain ⟨v, e1, e2⟩ := ok.fz (i := i) h1
      exact ⟨v :: vs, ⟨e1, a⟩, .cons e2 b, congrArg (· + 1) c⟩
    · cases h
theorem psIni {s : Str} {c : Nat} {C : Addr} {ns xs : List Str} {is : List Nat} {l : List Stmt} (hc : Wx.cls c = some (C, ns)) (hn : ns.Nodup) (hne : ns ≠ []) (hlt : ns.length < 1000) (h0 : X.N[0]? = some s) (hv0 : Vis X.env.scope s) (hs1 : (s == ("__debug__" : Str)) = false) (hs2 : (s == ("__classdict__" : Str)) = false) (cl : Cls X.K C)
    (hst : stores ns xs l = true) (hse : selfs s l = true) (ha : ∀ f ∈ ns, NoAttr X.K C f) (hl : is.length = xs.length) (hl2 : is.length = ns.length)
    (hx : ∀ (k i : Nat) (x : Str), is[k]? = some i → xs[k]? = some x → X.N[i]? = some x ∧ Vis X.env.scope x ∧ (x == ("__debug__" : Str)) = false ∧ (x == ("__classdict__" : Str)) = false) :
    PSs X l (tSs X.K P G W (.cons (.ini c is) .nil)) := by
  refine pssImp (stores_run h0 hv0 hs1 hs2 cl ns xs is l hst hse ha hl hx) fun D σ H h => ?_
  obtain ⟨en, φ, ok, fl, en', he, q⟩ := h
  unfold exB at he
  obtain ⟨⟨f1, e1⟩, g1, he1⟩ := Res.bind_ok he
  unfold ex at g1
  split at g1
  · rename_i c' ds k1 k2
    split at g1
    · rename_i e
      subst e
      cases g1
      cases he1
      have z := ok.slot 0
      rw [k1] at z
      obtain ⟨p, C', dx, ns', z1, z2, z3, z4⟩ := z
      rw [hc] at z2
      cases z2
      obtain ⟨vs, v1, v2, v3⟩ := fzAt_ok ok k2
      have hvl : vs.length = ns.length := v3.trans hl2
      refine ⟨p, dx, [], vs, z1, z3, by simpa using hlt, v1, hvl, ?_⟩
      rw [putAll_zip ns vs [] hvl (by simpa using hn), List.nil_append]
      have fz : FzS H (upd H p (.ins C dx (ns.zip vs))) := fun b o eb f => by
        by_cases w : b = p
        · subst w
          rw [z3] at eb
          cases eb
          exact absurd rfl f
        · exact (upd_ne w).trans eb
      have m1 : (ns.zip vs).map (·.1) = ns := List.map_fst_zip (Nat.le_of_eq hvl.symm)
      have m2 : (ns.zip vs).map (·.2) = vs := List.map_snd_zip (Nat.le_of_eq hvl)
      have rp : Rep X.K (upd H p (.ins C dx (ns.zip vs))) (.ref p) (.obj c' ds) := .obj hc upd_same (fun w => by rw [w] at m1; exact hne m1.symm) m1 (by rw [m2]; exact v2.mono fz)
      have keep : ∀ b u, b ∉ φ 0 → H b = some u → upd H p (.ins C dx (ns.zip vs)) b = some u := fun b u hb e => (upd_ne fun w => hb (by rw [z4, w]; exact List.mem_singleton.mpr rfl)).trans e
      exact q σ _ _ (env_clr ok z1 fz keep rp (tabs_own ok fun b u n e => keep b u (fun z => n ⟨0, z⟩) e)) ⟨evo_keep ok (fun b o n e => keep b o (fun w => n ⟨0, w⟩) e) fz, fun a ha => .inl (own_clr ha)⟩ fun _ _ => rfl
    · cases g1
  · cases g1
/-! a, b = e -/
theorem psAsgT {is : List Nat} {e : Expr} {es : List Expr} {k : Nat} {pt : Pos} {x : Ex} (hix : ∀ i ∈ is, i < X.N.length) (he : PE X e (tE X.K P G x)) (hb : isB x = false) (hg : PG X (.Tuple es k pt) (gP X.K (.t is))) (hc : notComp e = true)
    (hw : swappedStores [.Tuple es k pt] e X.env = pure none) : PS X (.Assign [.Tuple es k pt] e pos) (tS X.K P G W (.asgT is x)) := by
  refine psLen (ps_asg he hg (show swapsWith e (some (.Tuple es k pt)) pos.line X.env = pure false from swaps_no hc) hw) fun D σ H hσ h => ?_
  obtain ⟨en, φ, ok, fl, en', he, q⟩ := h
  unfold ex at he
  obtain ⟨⟨d, e1⟩, f1, he1⟩ := Res.bind_ok he
  obtain ⟨e2, f2, he2⟩ := Res.bind_ok he1
  cases he2
  refine ⟨en, φ, ok, d, e1, f1, fun v H1 ok1 ev1 v1 => ?_⟩
  refine gP_ok ok1 (val_rep hb v1) f2 (fun j hj => lt_of_slot ok1 hσ (hix j hj)) fun σ' ok2 k2 => ?_
  exact q _ H1 _ ok2 ⟨ev1, fun a ha => .inl (own_clr ha)⟩ k2
/-! return, pass, .. -/
theorem psRet {e : Expr} {x : Ex} (he : PE X e (tE X.K P G x)) (hb : isB x = false) : PS X (.Return (some e) pos) (tS X.K P G W (.ret x)) := by
  refine psImp (ps_ret he) fun D σ H h => ?_
  obtain ⟨en, φ, ok, fl, en', he, q⟩ := h
  unfold ex at he
  obtain ⟨⟨d, e1⟩, f1, he1⟩ := Res.bind_ok he
  cases he1
  exact ⟨en, φ, ok, d, _, f1, fun v H1 ok1 ev1 v1 => q σ H1 φ ok1 (.of ev1) (fun _ _ => rfl) v (val_rep hb v1)⟩
theorem psRetN : PS X (.Return none pos) (tS X.K P G W .retN) := by
  refine psImp ps_retN fun D σ H h => ?_
  obtain ⟨en, φ, ok, fl, en', he, q⟩ := h
  cases he
  exact q σ H φ ok .refl (fun _ _ => rfl) _ .non
theorem psRetO {i : Nat} {e : Expr} (he : PE X e (tE X.K P G (.bvar i))) : PS X (.Return (some e) pos) (tS X.K P G W (.retO i)) := by
  refine psImp (ps_ret he) fun D σ H h => ?_
  obtain ⟨en, φ, ok, fl, en', he, q⟩ := h
  unfold ex at he
  split at he
  · rename_i xs hx
    cases he
    refine ⟨en, φ, ok, .lst xs, en, by unfold ev; rw [hx], fun v H1 ok1 ev1 v1 => q σ H1 φ ok1 (.of ev1) (fun _ _ => rfl) v v1⟩
  · cases he
theorem psRetL {t : Nat} {e : Expr} {x : Ex} (he : PE X e (tO X.K P G x)) (ht : t < X.N.length) : PS X (.Return (some e) pos) (tS X.K P G W (.retL t x)) := by
  refine psLen (ps_ret he) fun D σ H hσ h => ?_
  obtain ⟨en, φ, ok, fl, en', he, q⟩ := h
  unfold ex at he
  obtain ⟨⟨d, e1⟩, f1, he1⟩ := Res.bind_ok he
  refine ⟨en, φ, ok, d, _, f1, fun v H1 ok1 ev1 v1 => ?_⟩
  cases d <;> first | (cases he1; done) | skip
  cases he1
  obtain ⟨a, xs, rfl, hn, h2, r⟩ := v1
  have no : ¬ Own φ a := fun ⟨j, hj⟩ => by
    have z := ok.slot j
    obtain ⟨w, e, hw⟩ := ok.own ⟨j, hj⟩
    exact hn _ (ow_nT hw) e
  have ht' : t < e1.length := by rw [← ok1.len, hσ]; exact ht
  refine q (σ.set t (some (.ref a))) H1 (ownAt φ t a) (env_own ok1 h2 r ht' no) ⟨ev1, fun b hb => ?_⟩ (fun j hj => set_out hj (List.mem_singleton.mpr rfl)) (.ref a) ?_
  · obtain ⟨j, hj⟩ := hb
    unfold ownAt at hj
    split at hj
    · obtain rfl := List.mem_singleton.mp hj; exact .inr hn
    · exact .inl ⟨j, hj⟩
  · rw [List.getElem?_set_self (by rw [hσ]; exact ht)]
theorem psPass : PS X (.Pass pos) (tS X.K P G W .pass) := by
  refine psImp ps_pass fun D σ H h => ?_
  obtain ⟨en, φ, ok, fl, en', he, q⟩ := h
  cases he
  exact q σ H φ ok .refl fun _ _ => rfl
theorem psBrk : PS X (.Break pos) (tS X.K P G W .brk) := by
  refine psImp ps_break fun D σ H h => ?_
  obtain ⟨en, φ, ok, fl, en', he, q⟩ := h
  cases he
  exact q σ H φ ok .refl fun _ _ => rfl
theorem psCnt : PS X (.Continue pos) (tS X.K P G W .cnt) := by
  refine psImp ps_continue fun D σ H h => ?_
  obtain ⟨en, φ, ok, fl, en', he, q⟩ := h
  cases he
  exact q σ H φ ok .refl fun _ _ => rfl
theorem psExpr {e : Expr} {x : Ex} (he : PE X e (tE X.K P G x)) (hc : notComp e = true) : PS X (.Expr e pos) (tS X.K P G W (.expr x)) := by
  refine psImp (ps_expr he (swaps_no hc)) fun D σ H h => ?_
  obtain ⟨en, φ, ok, fl, en', he, q⟩ := h
  unfold ex at he
  obtain ⟨⟨d, e1⟩, f1, he1⟩ := Res.bind_ok he
  cases he1
  exact ⟨en, φ, ok, d, _, f1, fun v H1 ok1 ev1 v1 => q σ H1 φ ok1 (.of ev1) fun _ _ => rfl⟩
/-! if -/
theorem psIf {c : Expr} {a b : List Stmt} {x : Ex} {y z : Blk} (hc : PT X c (tT X.K P G x)) (ha : PSs X a (tSs X.K P G W y)) (hb : PSs X b (tSs X.K P G W z)) : PS X (.If c a b pos) (tS X.K P G W (.ife x y z)) := by
  refine psImp (ps_if hc ha hb) fun D σ H h => ?_
  obtain ⟨en, φ, ok, fl, en', he, q⟩ := h
  unfold ex at he
  obtain ⟨⟨d, e1⟩, f1, he1⟩ := Res.bind_ok he
  obtain ⟨k, f2, he2⟩ := Res.bind_ok he1
  obtain rfl := asBl_ok f2
  refine ⟨en, φ, ok, k, e1, f1, fun H1 ok1 ev1 => ?_⟩
  cases k with
  | true => exact ⟨e1, φ, ok1, fl, en', he2, q.after (as1 := []) (.of ev1) (fun _ _ => rfl) fun i hi => by
      rcases hi with hi | hi
      · cases hi
      · exact List.mem_append_left _ hi⟩
  | false => exact ⟨e1, φ, ok1, fl, en', he2, q.after (as1 := []) (.of ev1) (fun _ _ => rfl) fun i hi => by
      rcases hi with hi | hi
      · cases hi
      · exact List.mem_append_right _ hi⟩
/-! loops -/
theorem psWhl {c : Expr} {b : List Stmt} {x : Ex} {y : Blk} (hp : PassesOwn (model X.prog X.w) X.A X.env X.xe) (hc : PT X c (tT X.K P G x)) (hb : PSs X b (tSs X.K P G W y)) : PS X (.While c b [] pos) (tS X.K P G W (.whl x y)) := by
  refine psImp (ps_while hp hc hb) fun D σ H h => ?_
  obtain ⟨en, φ, ok, fl, en', he, q⟩ := h
  unfold ex at he
  refine ⟨fun m σ1 H1 => ∃ e1 φ1, EnvOk X.K H1 σ1 e1 φ1 ∧ whileN (fun en => do
      let r ← ev P G x en
      return (← asBl r.1, r.2)) (exB P G y) m e1 = .ok (fl, en') ∧ Went H φ H1 φ1 ∧ ∀ j, j ∉ asgdB y → σ1[j]? = σ[j]?, ⟨fuel, en, φ, ok, he, .refl, fun _ _ => rfl⟩, ?_⟩
  rintro m σ1 H1 ⟨e1, φ1, ok1, hw, w1, k1⟩
  cases m with
  | zero => cases hw
  | succ m =>
    unfold whileN at hw
    obtain ⟨⟨k, e2⟩, g1, hw1⟩ := Res.bind_ok hw
    obtain ⟨⟨d, e3⟩, g2, g3⟩ := Res.bind_ok g1
    obtain ⟨k', g4, g5⟩ := Res.bind_ok g3
    cases g5
    obtain rfl := asBl_ok g4
    refine ⟨e1, φ1, ok1, k, e3, g2, fun H2 ok2 ev2 => ?_⟩
    have w2 := w1.trans (.of ev2)
    cases k with
    | false =>
      cases hw1
      dsimp only
      rw [if_neg Bool.false_ne_true]
      exact q σ1 H2 φ1 ok2 w2 k1
    | true =>
      dsimp only
      rw [if_pos rfl]
      obtain ⟨⟨f1, e4⟩, g6, hw2⟩ := Res.bind_ok hw1
      refine ⟨fun σ' H' => ∃ m', m' < m + 1 ∧ ∃ e1 φ1, EnvOk X.K H' σ' e1 φ1 ∧ whileN (fun en => do
          let r ← ev P G x en
          return (← asBl r.1, r.2)) (exB P G y) m' e1 = .ok (fl, en') ∧ Went H φ H' φ1 ∧ ∀ j, j ∉ asgdB y → σ'[j]? = σ[j]?, fun σ' H' z => z, e3, φ1, ok2, f1, e4, g6, ?_⟩
      intro σ3 H3 φ3 ok3 w3 k3
      cases f1 with
      | nx => exact ⟨m, Nat.lt_succ_self m, e4, φ3, ok3, hw2, w2.trans w3, fun j hj => (k3 j hj).trans (k1 j hj)⟩
      | cnt => exact ⟨m, Nat.lt_succ_self m, e4, φ3, ok3, hw2, w2.trans w3, fun j hj => (k3 j hj).trans (k1 j hj)⟩
      | brk =>
        cases hw2
        exact q σ3 H3 φ3 ok3 (w2.trans w3) fun j hj => (k3 j hj).trans (k1 j hj)
      | ret d =>
        cases hw2
        exact q σ3 H3 φ3 ok3 (w2.trans w3) fun j hj => (k3 j hj).trans (k1 j hj)
      | retO d =>
        cases hw2
        exact q σ3 H3 φ3 ok3 (w2.trans w3) fun j hj => (k3 j hj).trans (k1 j hj)
      | thr d p =>
        cases hw2
        exact q σ3 H3 φ3 ok3 (w2.trans w3) fun j hj => (k3 j hj).trans (k1 j hj)
/-- σ has its length behind every statement -/
theorem pssLen {b : List Stmt} {t : TS} (h : PSs X b t) : PSs X b (fun D σ H => t { D with nx := fun σ' H' => σ'.length = X.N.length → D.nx σ' H', ct := fun σ' H' => σ'.length = X.N.length → D.ct σ' H' } σ H) := by
  refine ⟨fun pins s σ H D I q => ?_⟩
  refine thn (h.run pins s σ H _ I q) fun f s1 z => ?_
  cases f with
  | next =>
    obtain ⟨σ', H', I1, z⟩ := z
    exact ⟨σ', H', I1, z I1.len⟩
  | cont =>
    obtain ⟨σ', H', I1, z⟩ := z
    exact ⟨σ', H', I1, z I1.len⟩
  | brk => exact z
  | ret v => exact z
theorem psFor {tg iter : Expr} {b : List Stmt} {pt : Pat} {sk : SK} {src : Exs} {y : Blk} (hp : PassesOwn (model X.prog X.w) X.A X.env X.xe) (hc : X.calm = true) (hi : PI X tg iter (tI X.K P G sk src)) (hg : PG X tg (gP X.K pt)) (hb : PSs X b (tSs X.K P G W y)) (hs : notSet iter = true) (hix : ∀ i ∈ ptVars pt, i < X.N.length) :
    PS X (.For tg iter b [] pos) (tS X.K P G W (.forr pt sk src y)) := by
  refine psLen (ps_for hp hc hi hg (pssLen hb) (notSet_folded hs)) fun D σ H hσ h => ?_
  obtain ⟨en, φ, ok, fl, en', he, q⟩ := h
  unfold ex at he
  obtain ⟨⟨ds, e1⟩, f1, he1⟩ := Res.bind_ok he
  obtain ⟨its, f2, he2⟩ := Res.bind_ok he1
  refine ⟨en, φ, ok, ds, e1, its, f1, f2, fun J H1 ok1 ev1 wl hlen => ?_⟩
  obtain ⟨Gd, Y, hW, g0, gst, gy⟩ := wl
  have w0 : Went H φ H1 φ := .of ev1
  -- a loop that is left on the way ends as it says there
  refine ⟨fun i m σ2 H2 => m = its.length - i ∧ i ≤ its.length ∧ ∃ e2 φ2, EnvOk X.K H2 σ2 e2 φ2 ∧ σ2.length = X.N.length ∧ Gd H2 ∧ Went H φ H2 φ2 ∧ (∀ j, j ∉ ptVars pt ++ asgdB y → σ2[j]? = σ[j]?) ∧ forGo (fun d en => do
      let en1 ← bindP pt d en
      exB P G y en1) (its.drop i) e2 = .ok (fl, en'), ⟨its.length, rfl, Nat.zero_le _, e1, φ, ok1, hσ, g0, w0, fun _ _ => rfl, he2⟩, ?_⟩
  rintro i m σ2 H2 ⟨rfl, hi2, e2, φ2, ok2, n2, g2, w2, k2, hgo⟩
  by_cases hlt : i < its.length
  · refine .inr ⟨hW.goes i H2 hlt g2, fun σ' H' => ∃ m', m' < its.length - i ∧ (m' = its.length - (i + 1) ∧ i + 1 ≤ its.length ∧ ∃ e2 φ2, EnvOk X.K H' σ' e2 φ2 ∧ σ'.length = X.N.length ∧ Gd H' ∧ Went H φ H' φ2 ∧ (∀ j, j ∉ ptVars pt ++ asgdB y → σ'[j]? = σ[j]?) ∧ forGo (fun d en => do
        let en1 ← bindP pt d en
        exB P G y en1) (its.drop (i + 1)) e2 = .ok (fl, en')), fun σ' H' z => z, fun v H3 hy => ?_⟩
    have hget : its[i]? = some its[i] := List.getElem?_eq_getElem hlt
    obtain ⟨sm, rv⟩ := gy i H2 v H3 its[i] hlt g2 hget (hW.yields i H2 v H3 hlt g2 hy)
    rw [List.drop_eq_getElem_cons hlt] at hgo
    unfold forGo at hgo
    obtain ⟨⟨fb, e3⟩, s1, hgo1⟩ := Res.bind_ok hgo
    obtain ⟨eb, b1, s2⟩ := Res.bind_ok s1
    have l2 : e2.length = X.N.length := by rw [← ok2.len]; exact n2
    refine gP_ok (ok2.mono sm) rv b1 (fun j hj => by rw [l2]; exact hix j hj) fun σ4 ok4 k4 => ?_
    have w4 : Went H φ H3 (clr φ2 (ptVars pt)) := w2.trans ⟨.of sm, fun a ha => .inl (own_clr ha)⟩
    refine ⟨eb, _, ok4, fb, e3, s2, ?_⟩
    intro σ5 H5 φ5 ok5 w5 k5
    have k6 : ∀ j, j ∉ ptVars pt ++ asgdB y → σ5[j]? = σ[j]? := fun j hj => by
      rw [k5 j fun z => hj (List.mem_append_right _ z), k4 j fun z => hj (List.mem_append_left _ z), k2 j hj]
    have again : σ5.length = X.N.length → forGo (fun d en => do
        let en1 ← bindP pt d en
        exB P G y en1) (its.drop (i + 1)) e3 = .ok (fl, en') → ∃ m', m' < its.length - i ∧ (m' = its.length - (i + 1) ∧ i + 1 ≤ its.length ∧ ∃ e2 φ2, EnvOk X.K H5 σ5 e2 φ2 ∧ σ5.length = X.N.length ∧ Gd H5 ∧ Went H φ H5 φ2 ∧ (∀ j, j ∉ ptVars pt ++ asgdB y → σ5[j]? = σ[j]?) ∧ forGo (fun d en => do
          let en1 ← bindP pt d en
          exB P G y en1) (its.drop (i + 1)) e2 = .ok (fl, en')) := fun n5 hz =>
      ⟨_, by omega, rfl, hlt, e3, φ5, ok5, n5, gst _ _ (gst _ _ g2 (.of sm)) w5.ev.fz, w4.trans w5, k6, hz⟩
    cases fb with
    | nx => exact fun n5 => again n5 hgo1
    | cnt => exact fun n5 => again n5 hgo1
    | brk => cases hgo1; exact q σ5 H5 φ5 ok5 (w4.trans w5) k6
    | ret d => cases hgo1; exact q σ5 H5 φ5 ok5 (w4.trans w5) k6
    | retO d => cases hgo1; exact q σ5 H5 φ5 ok5 (w4.trans w5) k6
    | thr d p => cases hgo1; exact q σ5 H5 φ5 ok5 (w4.trans w5) k6
  · have e : i = its.length := by omega
    subst e
    rw [List.drop_length] at hgo
    cases hgo
    exact .inl ⟨hW.stops H2 g2, q σ2 H2 φ2 ok2 w2 k2⟩
end
end Vi

/-! Vi, part 16: several names at once; stores into lists. -/
namespace Vi
open PySem PySem.Spec PyProof.Rows
open L2
variable [Wx]

/-- the names of a row that are stored from the right -/
def swNames (sc : Scope) (ts : List Expr) : List Str := ts.filterMap fun t => match t with
  | .Name id pos => if (sc.names.lookup id == some .local && pos.line == (Option.map (fun x : Expr => x.pos.line) ts.head?).getD 0) = true then some id else none
  | _ => none
def swR (sc : Scope) (ts vs : List Expr) : Option (Option (List Str)) :=
  if (!(ts.length == 2 || ts.length == 3) || vs.length != ts.length || (if sc.kind.isAnnotationScope = true then ScopeKind.function else sc.kind) != ScopeKind.function) = true then some none
  else if (vs.any fun e => !noStar e) = true then some none
  else if ((swNames sc ts).length != ts.length || (swNames sc ts).eraseDups.length != (swNames sc ts).length) = true then some none
  else if vs.all (foldedForSure 8) = true then some none
  else if vs.all (constantsAlone 8) = true then none
  else some (some (swNames sc ts))
theorem swR_ok {env : Env} {ts vs : List Expr} {k k2 : Nat} {p p2 : Pos} {r : Option (List Str)} (h : swR env.scope ts vs = some r) : swappedStores [.Tuple ts k p] (.Tuple vs k2 p2) env = pure r := by
  have star : (fun e : Expr => !noStar e) = fun e => match e with | .Starred _ _ => true | _ => false := funext fun e => by cases e <;> rfl
  unfold swR at h
  rw [star] at h
  unfold swappedStores
  simp only [Env.blockKind, Env.kindOf]
  by_cases c1 : (!(ts.length == 2 || ts.length == 3) || vs.length != ts.length || (if env.scope.kind.isAnnotationScope = true then ScopeKind.function else env.scope.kind) != ScopeKind.function) = true
  · rw [if_pos c1] at h
    cases h
    exact if_pos c1
  · rw [if_neg c1] at h
    refine (if_neg c1).trans ?_
    by_cases c2 : (vs.any fun e => match e with | .Starred _ _ => true | _ => false) = true
    · rw [if_pos c2] at h
      cases h
      exact if_pos c2
    · rw [if_neg c2] at h
      refine (if_neg c2).trans ?_
      by_cases c3 : ((swNames env.scope ts).length != ts.length || (swNames env.scope ts).eraseDups.length != (swNames env.scope ts).length) = true
      · rw [if_pos c3] at h
        cases h
        exact if_pos c3
      · rw [if_neg c3] at h
        refine (if_neg c3).trans ?_
        by_cases c4 : vs.all (foldedForSure 8) = true
        · rw [if_pos c4] at h
          cases h
          exact if_pos c4
        · rw [if_neg c4] at h
          refine (if_neg c4).trans ?_
          by_cases c5 : vs.all (constantsAlone 8) = true
          · rw [if_pos c5] at h
            cases h
          · rw [if_neg c5] at h
            cases h
            exact if_neg c5
section
variable (K : PySem.W.Frag)
/-- values that come one after another; the flagged ones new lists of one's own, at as -/
inductive VM (H0 : Hp) (φ : Fp) (H : Hp) : List Bool → List V → List D → List Addr → Prop where
  | nil : VM H0 φ H [] [] [] []
  | fz {v : V} {d : D} {os : List Bool} {vs : List V} {ds : List D} {as : List Addr} : Rep K H v d → VM H0 φ H os vs ds as → VM H0 φ H (false :: os) (v :: vs) (d :: ds) as
  | ow {a : Addr} {xs : List V} {es : List D} {os : List Bool} {vs : List V} {ds : List D} {as : List Addr} : Fr H0 a → a ∉ as → H a = some (.lst xs) → Reps K H xs es → VM H0 φ H os vs ds as → VM H0 φ H (true :: os) (.ref a :: vs) (.lst es :: ds) (a :: as)
end
def tM (K : PySem.W.Frag) (P : Tb) (G : List D) (o : Bool) (x : Ex) : TE := if o then tO K P G x else tE K P G x
def tMs (K : PySem.W.Frag) (P : Tb) (G : List D) : List Bool → Exs → TA
  | o :: os, .cons x xs => tCons (tM K P G o x) (tMs K P G os xs)
  | _, _ => tNil
theorem VM.mem {K : PySem.W.Frag} {H0 : Hp} {φ : Fp} {H : Hp} : ∀ {os : List Bool} {vs : List V} {ds : List D} {as : List Addr}, VM K H0 φ H os vs ds as → ∀ a ∈ as, Fr H0 a
  | _, _, _, _, .nil, a, h => by cases h
  | _, _, _, _, .fz _ t, a, h => t.mem a h
  | _, _, _, _, .ow h0 _ _ _ t, a, h => by
    rcases List.mem_cons.mp h with rfl | h
    · exact h0
    · exact t.mem a h
theorem VM.before {K : PySem.W.Frag} {H0 H1 : Hp} {φ : Fp} {H : Hp} (b : ∀ a, Fr H1 a → Fr H0 a) : ∀ {os : List Bool} {vs : List V} {ds : List D} {as : List Addr}, VM K H1 φ H os vs ds as → VM K H0 φ H os vs ds as
  | _, _, _, _, .nil => .nil
  | _, _, _, _, .fz r t => .fz r (t.before b)
  | _, _, _, _, .ow h0 h1 h2 h3 t => .ow (b _ h0) h1 h2 h3 (t.before b)
/-- no flagged one is a name's own -/
def okFl : List Bool → Exs → Bool
  | [], .nil => true
  | o :: os, .cons x xs => (o || !isB x) && okFl os xs
  | _, _ => false
section
variable {X : Cx} {P : Tb} {G : List D} {W : WX} {pos : Pos}
theorem tMs_read {Q : List V → Hp → Prop} : ∀ (os : List Bool) (xs : Exs) (σ : L2.St) (H : Hp) (en : En) (φ : Fp) (ds : List D) (en' : En), okFl os xs = true → EnvOk X.K H σ en φ → evs P G xs en = .ok (ds, en') →
    (∀ (i : Nat), os[i]? = some true → ∃ es, ds[i]? = some (.lst es)) → (∀ vs H' as, EnvOk X.K H' σ en' φ → Evo H (Own φ) H' → VM X.K H φ H' os vs ds as → Q vs H') → tMs X.K P G os xs σ H Q
  | [], .nil, σ, H, en, φ, ds, en', hf, ok, he, hd, q => by
    cases he
    exact q [] H [] ok .refl .nil
  | [], .cons _ _, σ, H, en, φ, ds, en', hf, ok, he, hd, q => by cases hf
  | _ :: _, .nil, σ, H, en, φ, ds, en', hf, ok, he, hd, q => by cases hf
  | o :: os, .cons x xs, σ, H, en, φ, ds, en', hf, ok, he, hd, q => by
    unfold okFl at hf
    rw [Bool.and_eq_true] at hf
    unfold evs at he
    obtain ⟨⟨d, e1⟩, f1, he1⟩ := Res.bind_ok he
    obtain ⟨⟨r, e2⟩, f2, he2⟩ := Res.bind_ok he1
    cases he2
    show tM X.K P G o x σ H fun v H1 => tMs X.K P G os xs σ H1 fun vs H2 => Q (v :: vs) H2
    cases o with
    | false =>
      show tE X.K P G x σ H _
      refine ⟨en, φ, ok, d, e1, f1, fun v H1 ok1 ev1 v1 => ?_⟩
      refine tMs_read os xs σ H1 e1 φ r e2 hf.2 ok1 f2 (fun i hi => hd (i + 1) hi) fun vs H2 as ok2 ev2 v2 => ?_
      exact q _ H2 as ok2 (ev1.trans' ev2) (.fz ((val_rep (by simpa using hf.1) v1).mono ev2.fz) (v2.before fun a => none_before ok1 ev1))
    | true =>
      show tO X.K P G x σ H _
      obtain ⟨es, hes⟩ := hd 0 rfl
      have hes : d = .lst es := Option.some.inj hes
      subst hes
      refine ⟨en, φ, ok, _, e1, f1, fun v H1 ok1 ev1 v1 => ?_⟩
      refine tMs_read os xs σ H1 e1 φ r e2 hf.2 ok1 f2 (fun i hi => hd (i + 1) hi) fun vs H2 as ok2 ev2 v2 => ?_
      obtain ⟨a, ys, rfl, hn, h1, rr⟩ := v1
      have no : ¬ Own φ a := fun z => by
        obtain ⟨w, e, hw⟩ := ok.own z
        exact hn _ (ow_nT hw) e
      refine q _ H2 (a :: as) ok2 (ev1.trans' ev2) (.ow hn (fun z => ?_) (ev2.keep a _ no (fun _ z => nomatch z) h1) (rr.mono ev2.fz) (v2.before fun a => none_before ok1 ev1))
      exact v2.mem a z (.lst ys) (fun _ z => nomatch z) h1
/-- the slots bound, from the left -/
def setAll : L2.St → List Nat → List V → L2.St
  | σ, i :: is, v :: vs => setAll (σ.set i (some v)) is vs
  | σ, _, _ => σ
theorem par_env {H0 : Hp} {φ0 : Fp} {H : Hp} : ∀ (is : List Nat) (os : List Bool) (vs : List V) (ds : List D) (as : List Addr) (σ : L2.St) (en en2 : En) (φ : Fp), VM X.K H0 φ0 H os vs ds as → EnvOk X.K H σ en φ → (∀ a ∈ as, ¬ Own φ a) → (∀ i ∈ is, i < en.length) → is.length = os.length →
    parGo (is.zip os) ds en = .ok en2 → ∃ φ2, EnvOk X.K H (setAll σ is vs) en2 φ2 ∧ (∀ a, Own φ2 a → Own φ a ∨ a ∈ as) ∧ ∀ j, j ∉ is → (setAll σ is vs)[j]? = σ[j]?
  | [], os, vs, ds, as, σ, en, en2, φ, hv, ok, no, hi, hl, he => by
    have e : os = [] := List.eq_nil_of_length_eq_zero hl.symm
    subst e
    cases hv
    cases he
    exact ⟨φ, ok, fun a h => .inl h, fun _ _ => rfl⟩
  | i :: is, [], vs, ds, as, σ, en, en2, φ, hv, ok, no, hi, hl, he => by cases hl
  | i :: is, o :: os, vs, ds, as, σ, en, en2, φ, hv, ok, no, hi, hl, he => by
    have hl' : is.length = os.length := by simpa using hl
    have hi0 : i < en.length := hi i List.mem_cons_self
    cases hv with
    | fz r t =>
      have he : parGo (is.zip os) _ (en.set i (.fz _)) = .ok en2 := he
      obtain ⟨φ2, o2, w2, k2⟩ := par_env is os _ _ as _ _ en2 (clr φ [i]) t (env_set ok r hi0) (fun a ha z => no a ha (own_clr z)) (fun j hj => by rw [List.length_set]; exact hi j (List.mem_cons_of_mem _ hj)) hl' he
      refine ⟨φ2, o2, fun a ha => (w2 a ha).imp own_clr id, fun j hj => ?_⟩
      show (setAll (σ.set i (some _)) is _)[j]? = σ[j]?
      rw [k2 j fun z => hj (List.mem_cons_of_mem _ z)]
      exact set_out hj List.mem_cons_self
    | ow h0 h1 h2 h3 t =>
      rename_i a xs es vs' ds' as'
      have he : parGo (is.zip os) _ (en.set i (.ow _)) = .ok en2 := he
      have own : ∀ b, Own (ownAt φ i a) b → Own φ b ∨ b = a := fun b ⟨k, hk⟩ => by
        unfold ownAt at hk
        split at hk
        · exact .inr (List.mem_singleton.mp hk)
        · exact .inl ⟨k, hk⟩
      obtain ⟨φ2, o2, w2, k2⟩ := par_env is os _ _ as' _ _ en2 (ownAt φ i a) t (env_own ok h2 h3 hi0 (no a List.mem_cons_self)) (fun b hb z => by
        rcases own b z with z | z
        · exact no b (List.mem_cons_of_mem _ hb) z
        · subst z; exact h1 hb) (fun j hj => by rw [List.length_set]; exact hi j (List.mem_cons_of_mem _ hj)) hl' he
      refine ⟨φ2, o2, fun b hb => ?_, fun j hj => ?_⟩
      · rcases w2 b hb with z | z
        · rcases own b z with z | z
          · exact .inl z
          · exact .inr (by rw [z]; exact List.mem_cons_self)
        · exact .inr (List.mem_cons_of_mem _ z)
      · show (setAll (σ.set i (some _)) is _)[j]? = σ[j]?
        rw [k2 j fun z => hj (List.mem_cons_of_mem _ z)]
        exact set_out hj List.mem_cons_self
theorem parGo_lst : ∀ (is : List Nat) (os : List Bool) (ds : List D) (en en2 : En), is.length = os.length → parGo (is.zip os) ds en = .ok en2 → ds.length = os.length ∧ ∀ (i : Nat), os[i]? = some true → ∃ es, ds[i]? = some (.lst es)
  | [], os, ds, en, en2, hl, he => by
    have e : os = [] := List.eq_nil_of_length_eq_zero hl.symm
    subst e
    cases ds with
    | nil => exact ⟨rfl, fun i h => by simp at h⟩
    | cons _ _ => cases he
  | i :: is, [], ds, en, en2, hl, he => by cases hl
  | i :: is, o :: os, [], en, en2, hl, he => by cases o <;> cases he
  | i :: is, o :: os, d :: ds, en, en2, hl, he => by
    have hl' : is.length = os.length := by simpa using hl
    cases o with
    | false =>
      have he : parGo (is.zip os) ds (en.set i (.fz d)) = .ok en2 := he
      obtain ⟨a, b⟩ := parGo_lst is os ds _ en2 hl' he
      refine ⟨by rw [List.length_cons, List.length_cons, a], fun j hj => ?_⟩
      cases j with
      | zero => cases hj
      | succ j => exact b j hj
    | true =>
      cases d <;> try cases he
      rename_i xs
      have he : parGo (is.zip os) ds (en.set i (.ow xs)) = .ok en2 := he
      obtain ⟨a, b⟩ := parGo_lst is os ds _ en2 hl' he
      refine ⟨by rw [List.length_cons, List.length_cons, a], fun j hj => ?_⟩
      cases j with
      | zero => exact ⟨xs, rfl⟩
      | succ j => exact b j hj
theorem VM.len {K : PySem.W.Frag} {H0 : Hp} {φ : Fp} {H : Hp} : ∀ {os : List Bool} {vs : List V} {ds : List D} {as : List Addr}, VM K H0 φ H os vs ds as → vs.length = os.length ∧ vs.length = ds.length
  | _, _, _, _, .nil => ⟨rfl, rfl⟩
  | _, _, _, _, .fz _ t => ⟨congrArg (· + 1) t.len.1, congrArg (· + 1) t.len.2⟩
  | _, _, _, _, .ow _ _ _ _ t => ⟨congrArg (· + 1) t.len.1, congrArg (· + 1) t.len.2⟩
theorem VM.mono {K : PySem.W.Frag} {H0 : Hp} {φ : Fp} {H H' : Hp} (s : Same H H') : ∀ {os : List Bool} {vs : List V} {ds : List D} {as : List Addr}, VM K H0 φ H os vs ds as → VM K H0 φ H' os vs ds as
  | _, _, _, _, .nil => .nil
  | _, _, _, _, .fz r t => .fz (r.mono (.of s)) (t.mono s)
  | _, _, _, _, .ow h0 h1 h2 h3 t => .ow h0 h1 (s _ _ h2) (h3.mono (.of s)) (t.mono s)
/-- what all such statements read -/
theorem par_core {is : List Nat} {os : List Bool} {xs : Exs} {D : Ends} {σ : L2.St} {H : Hp} (hix : ∀ i ∈ is, i < X.N.length) (hl : is.length = os.length) (hf : okFl os xs = true) (hσ : σ.length = X.N.length) (h : tS X.K P G W (.par (is.zip os) xs) D σ H) :
    ∀ Q : List V → Hp → Prop, (∀ vs H1, vs.length = is.length → (∀ H2, Same H1 H2 → D.nx (setAll σ is vs) H2) → Q vs H1) → tMs X.K P G os xs σ H Q := by
  intro Q hQ
  obtain ⟨en, φ, ok, fl, en', he, q⟩ := h
  unfold ex at he
  obtain ⟨⟨ds, e1⟩, f1, he1⟩ := Res.bind_ok he
  obtain ⟨e2, f2, he2⟩ := Res.bind_ok he1
  cases he2
  obtain ⟨n1, n2⟩ := parGo_lst is os ds e1 _ hl f2
  refine tMs_read os xs σ H en φ ds e1 hf ok f1 n2 fun vs H1 as ok1 ev1 v1 => hQ vs H1 (v1.len.1.trans hl.symm) fun H2 sm => ?_
  have no : ∀ a ∈ as, ¬ Own φ a := fun a ha z => by
    obtain ⟨w, e, hw⟩ := ok.own z
    exact v1.mem a ha _ (ow_nT hw) e
  obtain ⟨φ2, o2, w2, k2⟩ := par_env is os vs ds as σ e1 _ φ (v1.mono sm) (ok1.mono sm) no (fun i hi => lt_of_slot ok1 hσ (hix i hi)) hl f2
  refine q _ H2 φ2 o2 ⟨ev1.trans' (.of sm), fun a ha => (w2 a ha).imp id fun m => v1.mem a m⟩ fun j hj => k2 j ?_
  have e : (is.zip os).map (·.1) = is := by rw [List.map_fst_zip (Nat.le_of_eq hl)]
  unfold asgd at hj
  rw [e] at hj
  exact hj
theorem psPar2 {i j : Nat} {o1 o2 : Bool} {x y : Str} {px py pt spos : Pos} {k k2 : Nat} {pt2 : Pos} {a b : Expr} {e1 e2 : Ex} (hc : X.calm = true) (hN : X.N.Nodup) (hi : X.N[i]? = some x) (hj : X.N[j]? = some y) (hij : i ≠ j) (hx : X.env.scope.names.lookup x = some .local)
    (hy : X.env.scope.names.lookup y = some .local) (ha : PE X a (tM X.K P G o1 e1)) (hb : PE X b (tM X.K P G o2 e2)) (s1 : noStar a = true) (s2 : noStar b = true) (hf : okFl [o1, o2] (.cons e1 (.cons e2 .nil)) = true)
    (hw : swR X.env.scope [.Name x px, .Name y py] [a, b] = some (some [x, y])) : PS X (.Assign [.Tuple [.Name x px, .Name y py] k pt] (.Tuple [a, b] k2 pt2) spos) (tS X.K P G W (.par [(i, o1), (j, o2)] (.cons e1 (.cons e2 .nil)))) := by
  refine psLen (ps_par hc hN hi hj hij hx hy (pa_cons ha (pa_cons hb pa_nil (star1 s2)) (star1 s1)) (swR_ok hw)) fun D σ H hσ h => ?_
  refine par_core (is := [i, j]) (os := [o1, o2]) (fun l hl => ?_) rfl hf hσ h _ fun vs H1 l z => ?_
  · rcases List.mem_cons.mp hl with rfl | hl
    · exact (List.getElem?_eq_some_iff.mp hi).1
    · rw [List.mem_singleton.mp hl]; exact (List.getElem?_eq_some_iff.mp hj).1
  · match vs, l with
    | [v, w], _ => exact ⟨v, w, rfl, z H1 (.refl H1)⟩
theorem psPar3 {i j l : Nat} {o1 o2 o3 : Bool} {x y z : Str} {px py pz pt spos : Pos} {k k2 : Nat} {pt2 : Pos} {a b c : Expr} {e1 e2 e3 : Ex} (hc : X.calm = true) (hN : X.N.Nodup) (hi : X.N[i]? = some x) (hj : X.N[j]? = some y) (hl : X.N[l]? = some z) (hij : i ≠ j) (hil : i ≠ l) (hjl : j ≠ l)
    (hx : X.env.scope.names.lookup x = some .local) (hy : X.env.scope.names.lookup y = some .local) (hz : X.env.scope.names.lookup z = some .local) (ha : PE X a (tM X.K P G o1 e1)) (hb : PE X b (tM X.K P G o2 e2)) (hc' : PE X c (tM X.K P G o3 e3))
    (s1 : noStar a = true) (s2 : noStar b = true) (s3 : noStar c = true) (hf : okFl [o1, o2, o3] (.cons e1 (.cons e2 (.cons e3 .nil))) = true)
    (hw : swR X.env.scope [.Name x px, .Name y py, .Name z pz] [a, b, c] = some (some [x, y, z])) : PS X (.Assign [.Tuple [.Name x px, .Name y py, .Name z pz] k pt] (.Tuple [a, b, c] k2 pt2) spos) (tS X.K P G W (.par [(i, o1), (j, o2), (l, o3)] (.cons e1 (.cons e2 (.cons e3 .nil))))) := by
  refine psLen (ps_par3 hc hN hi hj hl hij hil hjl hx hy hz (pa_cons ha (pa_cons hb (pa_cons hc' pa_nil (star1 s3)) (star1 s2)) (star1 s1)) (swR_ok hw)) fun D σ H hσ h => ?_
  refine par_core (is := [i, j, l]) (os := [o1, o2, o3]) (fun m hm => ?_) rfl hf hσ h _ fun vs H1 n q => ?_
  · rcases List.mem_cons.mp hm with rfl | hm
    · exact (List.getElem?_eq_some_iff.mp hi).1
    · rcases List.mem_cons.mp hm with rfl | hm
      · exact (List.getElem?_eq_some_iff.mp hj).1
      · rw [List.mem_singleton.mp hm]; exact (List.getElem?_eq_some_iff.mp hl).1
  · match vs, n with
    | [u, v, w], _ => exact ⟨u, v, w, rfl, q H1 (.refl H1)⟩
theorem gNames_set {Q : L2.St → Hp → Prop} {H : Hp} : ∀ (is : List Nat) (vs : List V) (σ : L2.St), vs.length = is.length → Q (setAll σ is vs) H → gNames is vs σ H Q
  | [], vs, σ, hl, q => by
    have e : vs = [] := List.eq_nil_of_length_eq_zero hl
    subst e
    exact ⟨rfl, q⟩
  | i :: is, [], σ, hl, q => by cases hl
  | i :: is, v :: vs, σ, hl, q => ⟨v, vs, rfl, gNames_set is vs _ (by simpa using hl) q⟩
/-- .. through a tuple that is made and taken apart -/
theorem psParT {is : List Nat} {os : List Bool} {xs : Exs} {es ts : List Expr} {k k2 : Nat} {pt pt2 spos : Pos} (hix : ∀ i ∈ is, i < X.N.length) (hl : is.length = os.length) (hf : okFl os xs = true) (hle : exsLen xs ≤ 1000) (ha : PA X es (tMs X.K P G os xs)) (hg : PG X (.Tuple ts k pt) (gP X.K (.t is)))
    (hw : swR X.env.scope ts es = some none) : PS X (.Assign [.Tuple ts k pt] (.Tuple es k2 pt2) spos) (tS X.K P G W (.par (is.zip os) xs)) := by
  refine psLen (ps_asg (pe_tup ha) hg (show swapsWith (.Tuple es k2 pt2) (some (.Tuple ts k pt)) spos.line X.env = pure false from rfl) (swR_ok hw)) fun D σ H hσ h => ?_
  have hlen : os.length = exsLen xs := by
    have key : ∀ (os : List Bool) (xs : Exs), okFl os xs = true → os.length = exsLen xs := by
      intro os
      induction os with
      | nil => intro xs h; cases xs with
        | nil => rfl
        | cons _ _ => cases h
      | cons o os ih => intro xs h; cases xs with
        | nil => cases h
        | cons x xs =>
          unfold okFl at h
          rw [Bool.and_eq_true] at h
          exact congrArg (· + 1) (ih xs h.2)
    exact key os xs hf
  refine par_core hix hl hf hσ h _ fun vs H1 n q => ⟨by rw [n, hl, hlen, sizeLine_eq]; omega, fun p hp => ?_⟩
  exact ⟨p, vs, rfl, .of upd_same, n, gNames_set is vs σ n (q _ (same_upd hp))⟩
end
end Vi

/-! Vi, part 17: stores into lists, append, op=. -/
namespace Vi
open PySem PySem.Spec PyProof.Rows
open L2
variable [Wx]

section
variable {K : PySem.W.Frag} {H : Hp} {σ : L2.St} {en : En} {φ : Fp}
/-- a list of one's own is written -/
theorem env_write {i : Nat} {ds ds' : List D} {a : Addr} {xs xs' : List V} (h : EnvOk K H σ en φ) (e : getS en i = .ow ds) (e1 : σ[i]? = some (some (.ref a))) (e2 : H a = some (.lst xs)) (e3 : φ i = [a]) (r : Reps K H xs' ds') : EnvOk K (upd H a (.lst xs')) σ (en.set i (.ow ds')) φ := by
  have hi : i < en.length := by rw [← h.len]; exact (List.getElem?_eq_some_iff.mp e1).1
  have fz : FzS H (upd H a (.lst xs')) := fzS_upd fun u e f => by rw [e2] at e; cases e; exact f
  refine ⟨by rw [List.length_set]; exact h.len, fun j => ?_, h.dis, tabs_upd h.tb e2 (fun z => z)⟩
  rw [getS_set]
  by_cases z : i = j
  · subst z
    rw [if_pos ⟨rfl, hi⟩]
    exact ⟨a, xs', e1, upd_same, r.mono fz, e3⟩
  · rw [if_neg fun q => z q.1]
    refine slotOk_mono (h.slot j) fz fun b hb u _ eb => (upd_ne fun w => ?_).trans eb
    subst w
    exact z (h.dis i j b (by rw [e3]; exact List.mem_singleton.mpr rfl) hb)
theorem evo_write {a : Addr} {xs xs' : List V} {i : Nat} (e2 : H a = some (.lst xs)) (e3 : φ i = [a]) : Evo H (Own φ) (upd H a (.lst xs')) :=
  .upd e2 trivial (.inl ⟨i, by rw [e3]; exact List.mem_singleton.mpr rfl⟩) (fzS_upd fun u e f => by rw [e2] at e; cases e; exact f)
end
section
variable {X : Cx} {P : Tb} {G : List D} {W : WX} {pos : Pos}
theorem swaps_sub {e a b : Expr} {p : Pos} {l : Nat} {env : Env} : swapsWith e (some (.Subscript a b p)) l env = pure false := by cases e <;> rfl
theorem swapped_sub {e a b : Expr} {p : Pos} {env : Env} : swappedStores [.Subscript a b p] e env = pure none := by cases e <;> rfl
theorem putIx_reps {vs : List V} {ds es : List D} {k : Int} {v : V} {d : D} {K : PySem.W.Frag} {H : Hp} (r : Reps K H vs ds) (rv : Rep K H v d) (h : putIx ds k d = some es) : ∃ j, ixN vs.length k = some j ∧ Reps K H (vs.set j v) es := by
  unfold putIx at h
  obtain ⟨j, e1, e2⟩ := Option.map_eq_some_iff.mp h
  subst e2
  exact ⟨j, by rw [r.length]; exact e1, r.set rv j⟩
theorem pgSub {y : Str} {py ppos : Pos} {i : Nat} {ix : Expr} {z : Ex} (ho : PE X (.Name y py) (tE X.K P G (.bvar i))) (hi : PE X ix (tE X.K P G z)) (hs : noSlice ix = true) : PG X (.Subscript (.Name y py) ix ppos) (gSub (tE X.K P G (.bvar i)) (tE X.K P G z) rSetL) :=
  pg_sub ho hi set_list fun v => by cases ix <;> first | rfl | cases hs
theorem psSetI {y : Str} {py ppos : Pos} {i : Nat} {ix e : Expr} {z x : Ex} (ho : PE X (.Name y py) (tE X.K P G (.bvar i))) (hi : PE X ix (tE X.K P G z)) (he : PE X e (tE X.K P G x)) (hb : isB x = false) (hz : isB z = false) (hs : noSlice ix = true) :
    PS X (.Assign [.Subscript (.Name y py) ix ppos] e pos) (tS X.K P G W (.setI i z x)) := by
  refine psImp (ps_asg he (pgSub ho hi hs) (show swapsWith e (some (.Subscript (.Name y py) ix ppos)) pos.line X.env = pure false from swaps_sub) swapped_sub) fun D σ H h => ?_
  obtain ⟨en, φ, ok, fl, en', he, q⟩ := h
  unfold ex at he
  obtain ⟨⟨d, e1⟩, f1, he1⟩ := Res.bind_ok he
  obtain ⟨⟨o, e0⟩, f0, he0⟩ := Res.bind_ok he1
  obtain ⟨⟨k, e2⟩, f2, he2⟩ := Res.bind_ok he0
  split at he2
  · rename_i xs kk g1 g2
    obtain ⟨es, f3, he3⟩ := Res.bind_ok he2
    cases he3
    have g2 : k = .int kk := g2
    subst g2
    have g1 : getS e2 i = .ow xs := g1
    refine ⟨en, φ, ok, d, e1, f1, fun v H1 ok1 ev1 v1 => ⟨e1, φ, ok1, o, e0, f0, fun w H0 ok0 ev0 v0 => ⟨e0, φ, ok0, .int kk, e2, f2, fun u H2 ok2 ev2 v2 => ?_⟩⟩⟩
    obtain ⟨a, vs, s1, s2, r, s3⟩ := ok2.ow g1
    have v0 : σ[i]? = some (some w) := v0
    rw [v0] at s1
    cases s1
    have r2 := val_rep hz v2
    cases r2
    have rv : Rep X.K H2 v d := ((val_rep hb v1).mono ev0.fz).mono ev2.fz
    obtain ⟨j, j1, j2⟩ := putIx_reps r rv (ofO_ok f3)
    exact ⟨a, vs, kk, j, rfl, rfl, s2, j1, q σ _ φ (env_write ok2 g1 v0 s2 s3 j2) (.of (((ev1.trans' ev0).trans' ev2).trans' (evo_write s2 s3))) fun _ _ => rfl⟩
  · cases he2
/-! stores into items of items -/
theorem RwsOk.put {K : PySem.W.Frag} {H : Hp} {b : Addr} {xs' : List V} {row' : List D} (r : Reps K (upd H b (.lst xs')) xs' row') (fz : FzS H (upd H b (.lst xs'))) : ∀ {bs : List Addr} {rows : List (List D)} {j : Nat}, RwsOk K H bs rows → bs.Nodup → bs[j]? = some b → RwsOk K (upd H b (.lst xs')) bs (rows.set j row')
  | _, _, j, .nil, _, hj => by simp at hj
  | _, _, 0, .cons (b := c) (bs := bs) h r1 t, hn, hj => by
    have : c = b := by simpa using hj
    subst this
    rw [List.nodup_cons] at hn
    exact .cons upd_same r (t.mono fz fun d hd u _ e => (upd_ne fun z => hn.1 (by rw [← z]; exact hd)).trans e)
  | _, _, j + 1, .cons (b := c) (bs := bs) h r1 t, hn, hj => by
    rw [List.nodup_cons] at hn
    have hj' : bs[j]? = some b := by simpa using hj
    exact .cons ((upd_ne fun z => hn.1 (by rw [z]; exact List.mem_of_getElem? hj')).trans h) (r1.mono fz) (RwsOk.put r fz t hn.2 hj')
theorem om_write {K : PySem.W.Frag} {H : Hp} {σ : L2.St} {en : En} {φ : Fp} {i : Nat} {rows rows' : List (List D)} {k l : Int} {d : D} {v : V} {bs : List Addr} {j : Nat} {b : Addr} {p : Addr} (ok : EnvOk K H σ en φ) (g : getS en i = .om rows) (hp : putII rows k l d = some rows') (rv : Rep K H v d) (s1 : σ[i]? = some (some (.ref p))) (hφ : φ i = p :: bs) (hj : L2.ixN rows.length k = some j) (hb : bs[j]? = some b) :
    ∃ xs j2, H b = some (.lst xs) ∧ L2.ixN xs.length l = some j2 ∧ EnvOk K (upd H b (.lst (xs.set j2 v))) σ (en.set i (.om rows')) φ ∧ Evo H (Own φ) (upd H b (.lst (xs.set j2 v))) := by
  obtain ⟨p', bs', t1, t2, r, t3, t4⟩ := ok.om g
  rw [s1] at t1
  cases t1
  rw [hφ] at t3
  cases t3
  unfold putII at hp
  split at hp
  · rename_i row e1
    split at hp
    · rename_i row' e2
      obtain ⟨j', z1, z2⟩ := Option.map_eq_some_iff.mp hp
      rw [hj] at z1
      cases z1
      subst z2
      obtain ⟨j1, b1, xs, w1, w2, w3, w4, w5⟩ := rws_at r e1
      rw [hj] at w1
      cases w1
      rw [hb] at w2
      cases w2
      obtain ⟨j2, y1, y2⟩ := putIx_reps w5 rv e2
      rw [List.nodup_cons] at t4
      have hbm : b ∈ bs := List.mem_of_getElem? hb
      have nb : b ≠ p := fun z => t4.1 (by rw [← z]; exact hbm)
      have fz : FzS H (upd H b (.lst (xs.set j2 v))) := fzS_upd fun u e f => by rw [w4] at e; cases e; exact f
      have hi : i < en.length := by rw [← ok.len]; exact (List.getElem?_eq_some_iff.mp s1).1
      refine ⟨xs, j2, w4, y1, ⟨by rw [List.length_set]; exact ok.len, fun q => ?_, ok.dis, tabs_upd ok.tb w4 (fun z => z)⟩, .upd w4 trivial (.inl ⟨i, by rw [hφ]; exact List.mem_cons_of_mem _ hbm⟩) fz⟩
      rw [getS_set]
      by_cases z : i = q
      · subst z
        rw [if_pos ⟨rfl, hi⟩]
        exact ⟨p, bs, s1, (upd_ne nb.symm).trans t2, r.put (y2.mono fz) fz t4.2 hb, hφ, by rw [hφ]; exact List.nodup_cons.mpr t4⟩
      · rw [if_neg fun w => z w.1]
        refine slotOk_mono (ok.slot q) fz fun c hc u _ eb => (upd_ne fun w => ?_).trans eb
        subst w
        exact z (ok.dis i q c (by rw [hφ]; exact List.mem_cons_of_mem _ hbm) hc)
    · cases hp
  · cases hp
theorem putII_row {rows rows' : List (List D)} {k l : Int} {d : D} (h : putII rows k l d = some rows') : ∃ row, L2.atI rows k = some row := by
  unfold putII at h
  split at h
  · rename_i row e
    exact ⟨row, e⟩
  · cases h
theorem pgSub2 {y : Str} {py p1 ppos : Pos} {i : Nat} {ix jx : Expr} {z w : Ex} (hN : X.N[i]? = some y) (hv : Vis X.env.scope y) (h1 : (y == ("__debug__" : Str)) = false) (h2 : (y == ("__classdict__" : Str)) = false) (hi : PE X ix (tE X.K P G z)) (hz : isB z = false) (hs : noSlice ix = true) (hj : PE X jx (tE X.K P G w)) (hs2 : noSlice jx = true) :
    PG X (.Subscript (.Subscript (.Name y py) ix p1) jx ppos) (gSub (tRow X.K P G i z) (tE X.K P G w) rSetL) :=
  pg_sub (peRow hN hv h1 h2 hi hz hs) hj set_list fun v => by cases jx <;> first | rfl | cases hs2
/-- the store's reading -/
theorem subII_read {i : Nat} {z w : Ex} {σ : L2.St} {H : Hp} {en e1 e2 : En} {φ : Fp} {k l : Int} {rows rows' : List (List D)} {d : D} {v : V} {Q : L2.St → Hp → Prop} (ok : EnvOk X.K H σ en φ) (hq : quiet z = true) (hq2 : quiet w = true) (hw : isB w = false) (f1 : ev P G z en = .ok (.int k, e1)) (f2 : ev P G w e1 = .ok (.int l, e2)) (g : getS e2 i = .om rows)
    (hp : putII rows k l d = some rows') (rv : Rep X.K H v d) (q : ∀ H', EnvOk X.K H' σ (e2.set i (.om rows')) φ → Evo H (Own φ) H' → Q σ H') : gSub (tRow X.K P G i z) (tE X.K P G w) rSetL v σ H Q := by
  obtain rfl := evQuiet z _ _ _ hq f1
  obtain rfl := evQuiet w _ _ _ hq2 f2
  obtain ⟨row, hrow⟩ := putII_row hp
  refine ⟨_, φ, ok, rows, k, row, g, f1, hrow, fun bs j b xs H1 ok1 ev1 hφ z1 z2 r1 z4 z5 => ⟨_, φ, ok1, .int l, _, f2, fun u H2 ok2 ev2 v2 => ?_⟩⟩
  have r2 := val_rep hw v2
  cases r2
  obtain ⟨p, bs', t1, t2, r2', t3, t4⟩ := ok2.om g
  have hφ' : φ i = p :: bs := by
    rw [t1] at hφ
    exact hφ
  obtain ⟨ys, j2, y1, y2, y3, y4⟩ := om_write ok2 g hp ((rv.mono ev1.fz).mono ev2.fz) t1 hφ' z1 z2
  exact ⟨b, ys, l, j2, rfl, rfl, y1, y2, q _ y3 ((ev1.trans' ev2).trans' y4)⟩
theorem psSetII {y : Str} {py p1 ppos : Pos} {i : Nat} {ix jx e : Expr} {z w x : Ex} (hN : X.N[i]? = some y) (hv : Vis X.env.scope y) (h1 : (y == ("__debug__" : Str)) = false) (h2 : (y == ("__classdict__" : Str)) = false) (hi : PE X ix (tE X.K P G z)) (hz : isB z = false) (hs : noSlice ix = true) (hqz : quiet z = true) (hj : PE X jx (tE X.K P G w)) (hw : isB w = false) (hs2 : noSlice jx = true) (hqw : quiet w = true)
    (he : PE X e (tE X.K P G x)) (hb : isB x = false) : PS X (.Assign [.Subscript (.Subscript (.Name y py) ix p1) jx ppos] e pos) (tS X.K P G W (.setII i z w x)) := by
  refine psImp (ps_asg he (pgSub2 hN hv h1 h2 hi hz hs hj hs2) (show swapsWith e (some (.Subscript (.Subscript (.Name y py) ix p1) jx ppos)) pos.line X.env = pure false from swaps_sub) swapped_sub) fun D σ H h => ?_
  obtain ⟨en, φ, ok, fl, en', he, q⟩ := h
  unfold ex at he
  obtain ⟨⟨d, e1⟩, f1, he1⟩ := Res.bind_ok he
  obtain ⟨⟨k, e2⟩, f2, he2⟩ := Res.bind_ok he1
  obtain ⟨⟨l, e3⟩, f3, he3⟩ := Res.bind_ok he2
  dsimp only at he3
  split at he3
  · rename_i rows kk ll g1
    obtain ⟨rows', f4, he4⟩ := Res.bind_ok he3
    cases he4
    refine ⟨en, φ, ok, d, e1, f1, fun v H1 ok1 ev1 v1 => ?_⟩
    exact subII_read ok1 hqz hqw hw f2 f3 g1 (ofO_ok f4) (val_rep hb v1) fun H2 ok2 ev2 => q σ H2 φ ok2 (.of (ev1.trans' ev2)) fun _ _ => rfl
  · cases he3
/-! a, xs[i], .. = .. -/
def gS (K : PySem.W.Frag) (P : Tb) (G : List D) : List Nat → Exs → Exs → TGs
  | i :: is, .cons ix ixs, .cons jx jxs => gCons (if isNop ix = true then gName i else if isNop jx = true then gSub (tE K P G (.bvar i)) (tE K P G ix) rSetL else gSub (tRow K P G i ix) (tE K P G jx) rSetL) (gS K P G is ixs jxs)
  | _, _, _ => gNil
def okII : Exs → Exs → Bool
  | .cons ix ixs, .cons jx jxs => (isNop jx || (quiet ix && quiet jx)) && okII ixs jxs
  | _, _ => true
theorem gS_read : ∀ (is : List Nat) (ixs jxs : Exs) (vs : List V) (ds : List D) (σ : L2.St) (H : Hp) (en : En) (φ : Fp) (en2 : En) (Q : L2.St → Hp → Prop), EnvOk X.K H σ en φ → Reps X.K H vs ds → parSGo P G is ixs jxs ds en = .ok en2 → (∀ i ∈ is, i < σ.length) → noB ixs = true → noB jxs = true → okII ixs jxs = true →
    (∀ σ' H' φ', EnvOk X.K H' σ' en2 φ' → Went H φ H' φ' → (∀ j, j ∉ is → σ'[j]? = σ[j]?) → Q σ' H') → gS X.K P G is ixs jxs vs σ H Q
  | [], ixs, jxs, vs, ds, σ, H, en, φ, en2, Q, ok, r, he, _, _, _, _, q => by
    cases ixs with
    | cons _ _ => cases he
    | nil =>
      cases jxs with
      | cons _ _ => cases ds <;> cases he
      | nil =>
        cases ds with
        | cons _ _ => cases he
        | nil =>
          cases he
          cases r
          exact ⟨rfl, q σ H φ ok .refl fun _ _ => rfl⟩
  | i :: is, .nil, jxs, vs, ds, σ, H, en, φ, en2, Q, ok, r, he, _, _, _, _, q => by cases jxs <;> cases ds <;> cases he
  | i :: is, .cons ix ixs, .nil, vs, ds, σ, H, en, φ, en2, Q, ok, r, he, _, _, _, _, q => by cases ds <;> cases he
  | i :: is, .cons ix ixs, .cons jx jxs, vs, [], σ, H, en, φ, en2, Q, ok, r, he, _, _, _, _, q => by cases he
  | i :: is, .cons ix ixs, .cons jx jxs, vs, d :: ds, σ, H, en, φ, en2, Q, ok, r, he, hi, hb, hb2, hq, q => by
    cases r with
    | cons r1 r2 =>
      rename_i v vr
      unfold noB at hb hb2
      rw [Bool.and_eq_true, Bool.not_eq_true'] at hb hb2
      unfold okII at hq
      rw [Bool.and_eq_true, Bool.or_eq_true, Bool.and_eq_true] at hq
      unfold parSGo at he
      refine ⟨v, vr, rfl, ?_⟩
      by_cases hn : isNop ix = true
      · rw [if_pos hn] at he ⊢
        have hil : i < en.length := by rw [← ok.len]; exact hi i List.mem_cons_self
        refine gS_read is ixs jxs vr ds _ H _ _ en2 Q (env_set ok r1 hil) r2 he (fun j hj => by rw [List.length_set]; exact hi j (List.mem_cons_of_mem _ hj)) hb.2 hb2.2 hq.2 fun σ' H' φ' ok' w' k' => ?_
        refine q σ' H' φ' ok' ((⟨.refl, fun a ha => .inl (own_clr ha)⟩ : Went H φ H (clr φ [i])).trans w') fun j hj => ?_
        rw [k' j fun z => hj (List.mem_cons_of_mem _ z), set_out (as := [i]) (fun z => hj (by rw [List.mem_singleton.mp z]; exact List.mem_cons_self)) List.mem_cons_self]
      · rw [if_neg hn] at he ⊢
        by_cases hn2 : isNop jx = true
        · rw [if_pos hn2] at he ⊢
          obtain ⟨⟨o, e0⟩, f0, he0⟩ := Res.bind_ok he
          obtain ⟨⟨k, e2⟩, f2, he2⟩ := Res.bind_ok he0
          dsimp only at he2
          split at he2
          · rename_i xs kk g1
            obtain ⟨es, f3, he3⟩ := Res.bind_ok he2
            refine ⟨en, φ, ok, o, e0, f0, fun w H0 ok0 ev0 v0 => ⟨e0, φ, ok0, .int kk, e2, f2, fun u H2 ok2 ev2 v2 => ?_⟩⟩
            obtain ⟨a, ws, s1, s2, rr, s3⟩ := ok2.ow g1
            have v0 : σ[i]? = some (some w) := v0
            rw [v0] at s1
            cases s1
            have r3 := val_rep hb.1 v2
            cases r3
            have ev := ev0.trans' ev2
            obtain ⟨j, j1, j2⟩ := putIx_reps rr (r1.mono ev.fz) (ofO_ok f3)
            have evw := ev.trans' (evo_write s2 s3 (xs' := ws.set j v))
            refine ⟨a, ws, kk, j, rfl, rfl, s2, j1, ?_⟩
            refine gS_read is ixs jxs vr ds σ _ _ φ en2 Q (env_write ok2 g1 v0 s2 s3 j2) (r2.mono evw.fz) he3 (fun j hj => hi j (List.mem_cons_of_mem _ hj)) hb.2 hb2.2 hq.2 fun σ' H' φ' ok' w' k' => ?_
            exact q σ' H' φ' ok' ((Went.of evw).trans w') fun j hj => k' j fun z => hj (List.mem_cons_of_mem _ z)
          · cases he2
        · rw [if_neg hn2] at he ⊢
          obtain ⟨⟨k, e1⟩, f1, he1⟩ := Res.bind_ok he
          obtain ⟨⟨l, e2⟩, f2, he2⟩ := Res.bind_ok he1
          dsimp only at he2
          split at he2
          · rename_i rows kk ll g1
            obtain ⟨rows', f3, he3⟩ := Res.bind_ok he2
            obtain ⟨q1, q2⟩ := hq.1.resolve_left hn2
            refine subII_read ok q1 q2 hb2.1 f1 f2 g1 (ofO_ok f3) r1 fun H2 ok2 ev2 => ?_
            refine gS_read is ixs jxs vr ds σ H2 _ φ en2 Q ok2 (r2.mono ev2.fz) he3 (fun j hj => hi j (List.mem_cons_of_mem _ hj)) hb.2 hb2.2 hq.2 fun σ' H' φ' ok' w' k' => ?_
            exact q σ' H' φ' ok' ((Went.of ev2).trans w') fun j hj => k' j fun z => hj (List.mem_cons_of_mem _ z)
          · cases he2
theorem parS_len : ∀ (is : List Nat) (ixs jxs : Exs) (ds : List D) (en en2 : En), parSGo P G is ixs jxs ds en = .ok en2 → ds.length = is.length
  | [], ixs, jxs, ds, en, en2, he => by
    cases ixs with
    | cons _ _ => cases he
    | nil => cases jxs with
      | cons _ _ => cases ds <;> cases he
      | nil => cases ds with
        | cons _ _ => cases he
        | nil => rfl
  | i :: is, .nil, jxs, ds, en, en2, he => by cases jxs <;> cases ds <;> cases he
  | i :: is, .cons ix ixs, .nil, ds, en, en2, he => by cases ds <;> cases he
  | i :: is, .cons ix ixs, .cons jx jxs, [], en, en2, he => by cases he
  | i :: is, .cons ix ixs, .cons jx jxs, d :: ds, en, en2, he => by
    unfold parSGo at he
    split at he
    · rw [List.length_cons, List.length_cons, parS_len is ixs jxs ds _ en2 he]
    · split at he
      · obtain ⟨⟨o, e0⟩, f0, he0⟩ := Res.bind_ok he
        obtain ⟨⟨k, e2⟩, f2, he2⟩ := Res.bind_ok he0
        dsimp only at he2
        split at he2
        · obtain ⟨es, f3, he3⟩ := Res.bind_ok he2
          rw [List.length_cons, List.length_cons, parS_len is ixs jxs ds _ en2 he3]
        · cases he2
      · obtain ⟨⟨k, e1⟩, f1, he1⟩ := Res.bind_ok he
        obtain ⟨⟨l, e2⟩, f2, he2⟩ := Res.bind_ok he1
        dsimp only at he2
        split at he2
        · obtain ⟨es, f3, he3⟩ := Res.bind_ok he2
          rw [List.length_cons, List.length_cons, parS_len is ixs jxs ds _ en2 he3]
        · cases he2
def isTg : Expr → Bool
  | .Name _ _ => true
  | .Subscript _ i _ => noSlice i
  | _ => false
theorem tgs_each {env : Env} : ∀ (es : List Expr), es.all isTg = true → (assignEach es env).length = es.length ∧ (assignEach es env).findIdx? (·.1) = none
  | [], _ => ⟨rfl, rfl⟩
  | e :: es, h => by
    rw [List.all_cons, Bool.and_eq_true] at h
    obtain ⟨h1, h2⟩ := tgs_each (env := env) es h.2
    have q : assignEach (e :: es) env = (false, assign e env) :: assignEach es env := by
      cases e <;> first | rfl | (simp [isTg] at h)
    rw [q]
    exact ⟨by rw [List.length_cons, List.length_cons, h1], by rw [List.findIdx?_cons, h2]; rfl⟩
theorem tgs_cons {env : Env} {e : Expr} {es : List Expr} (h : isTg e = true) : (assignEach (e :: es) env).map (·.2) = assign e env :: (assignEach es env).map (·.2) := by
  cases e <;> first | rfl | (simp [isTg] at h)
theorem evs_lenX : ∀ (xs : Exs) (en en' : En) (ds : List D), evs P G xs en = .ok (ds, en') → ds.length = exsLen xs
  | .nil, en, en', ds, h => by cases h; rfl
  | .cons e es, en, en', ds, h => by
    unfold evs at h
    obtain ⟨⟨r, e1⟩, _, h1⟩ := Res.bind_ok h
    obtain ⟨⟨q, e2⟩, h3, h2⟩ := Res.bind_ok h1
    cases h2
    exact congrArg (· + 1) (evs_lenX es _ _ _ h3)
theorem psParS {is : List Nat} {ixs jxs xs : Exs} {es ts : List Expr} {k k2 : Nat} {pt pt2 spos : Pos} (hc : X.calm = true) (hix : ∀ i ∈ is, i < X.N.length) (hl : is.length = ts.length) (hbx : noB ixs = true) (hbj : noB jxs = true) (hII : okII ixs jxs = true) (hb : noB xs = true) (hle : exsLen xs ≤ 1000) (ha : PA X es (tA X.K P G xs)) (hg : PGs X ts (gS X.K P G is ixs jxs)) (ht : ts.all isTg = true)
    (hw : swR X.env.scope ts es = some none) : PS X (.Assign [.Tuple ts k pt] (.Tuple es k2 pt2) spos) (tS X.K P G W (.parS is ixs jxs xs)) := by
  obtain ⟨n1, n2⟩ := tgs_each (env := X.env) ts ht
  refine psLen (ps_asg (pe_tup ha) (pg_tup hc hg (n1.trans hl.symm) n2) (show swapsWith (.Tuple es k2 pt2) (some (.Tuple ts k pt)) spos.line X.env = pure false from rfl) (swR_ok hw)) fun D σ H hσ h => ?_
  obtain ⟨en, φ, ok, fl, en', he, q⟩ := h
  unfold ex at he
  obtain ⟨⟨ds, e1⟩, f1, he1⟩ := Res.bind_ok he
  obtain ⟨e2, f2, he2⟩ := Res.bind_ok he1
  cases he2
  refine ⟨en, φ, ok, ds, e1, f1, fun vs H1 ok1 ev1 v1 => ?_⟩
  have r := vls_reps v1 hb
  have hvl : vs.length = is.length := r.length.trans (parS_len _ _ _ _ _ _ f2)
  have hvx : vs.length = exsLen xs := by
    rw [r.length]
    exact evs_lenX xs _ _ _ f1
  refine ⟨by rw [hvx, sizeLine_eq]; omega, fun p hp => ⟨p, vs, rfl, .of upd_same, hvl, ?_⟩⟩
  have sm : Same H1 (upd H1 p (.tup vs)) := same_upd hp
  refine gS_read is ixs jxs vs ds σ _ e1 φ _ _ (ok1.mono sm) (r.mono (.of sm)) f2 (fun i hi => by rw [hσ]; exact hix i hi) hbx hbj hII fun σ' H' φ' ok' w' k' => ?_
  exact q σ' H' φ' ok' ((Went.of (ev1.trans' (.of sm))).trans w') fun j hj => k' j hj
/-! xs.append(e) -/
theorem psApp {y : Str} {py apos cpos : Pos} {i : Nat} {e : Expr} {x : Ex} (ho : PE X (.Name y py) (tE X.K P G (.bvar i))) (he : PE X e (tE X.K P G x)) (hb : isB x = false) (hs : noStar e = true) (hl : (apos.endLine == cpos.line) = true) :
    PS X (.Expr (.Call (.Attribute (.Name y py) "append" apos) [e] [] cpos) pos) (tS X.K P G W (.app i x)) := by
  have call := pe_bm (X := X) (cpos := cpos) (apos := apos) PySem.F.plainAttrs_list PySem.F.slot_list_append PySem.F.type_list_append mt_append ho (paC hs he paN) rfl
    (by rw [star1 hs]; rfl) hl (star1 hs) rfl
  refine psImp (ps_expr call) fun D σ H h => ?_
  obtain ⟨en, φ, ok, fl, en', he, q⟩ := h
  unfold ex at he
  split at he
  · rename_i ws g0
    obtain ⟨⟨d, e1⟩, f1, he1⟩ := Res.bind_ok he
    split at he1
    · rename_i xs g1
      split at he1
      · rename_i hlen
        cases he1
        have g1 : getS e1 i = .ow xs := g1
        refine ⟨en, φ, ok, .lst ws, en, by unfold ev; rw [g0], fun w H0 ok0 ev0 v0 => ⟨?_, en, φ, ok0, [d], e1, ?_, fun us H1 ok1 ev1 v1 => ?_⟩⟩
        · have v0 : σ[i]? = some (some w) := v0
          obtain ⟨a, vs, s1, s2, _⟩ := ok0.ow g0
          rw [v0] at s1
          cases s1
          exact .inl ⟨rfl, vs, .of s2⟩
        · unfold evs
          rw [f1]
          rfl
        · obtain ⟨a, vs, s1, s2, r, s3⟩ := ok1.ow g1
          have v0 : σ[i]? = some (some w) := v0
          rw [v0] at s1
          cases s1
          cases v1 with
          | cons v1 t =>
            cases t
            refine ⟨a, vs, _, rfl, rfl, s2, by rw [r.length, ← line_eq]; exact hlen, ?_⟩
            exact q σ _ φ (env_write ok1 g1 v0 s2 s3 (r.append (.cons (val_rep hb v1) .nil))) (.of ((ev0.trans' ev1).trans' (evo_write s2 s3))) fun _ _ => rfl
      · cases he1
    · cases he1
  · cases he
/-! op= -/
theorem ip_binI {op : BOp} (hp : op ≠ .pow) : PIp X (astB op) (fun x y H Q => ∃ i j c, x = .int i ∧ y = .int j ∧ binI op i j = .ok c ∧ ∀ k, c = .int k → Q (.int k) H) := by
  intro pins s σ H x y v u Q I rx ry h
  obtain ⟨i, j, c, rfl, rfl, e, q⟩ := h
  cases op with
  | pow => exact absurd rfl hp
  | add => cases e; exact iop_add pins s σ H _ _ v u Q I rx ry ⟨i, j, rfl, rfl, q _ rfl⟩
  | sub => cases e; exact iop_sub pins s σ H _ _ v u Q I rx ry ⟨i, j, rfl, rfl, q _ rfl⟩
  | mul =>
    simp only [binI] at e
    split at e
    · rename_i h
      cases e
      refine iop_mul pins s σ H _ _ v u Q I rx ry ⟨i, j, rfl, rfl, ?_, q _ rfl⟩
      rw [Bool.or_eq_true] at h
      exact h.imp smallB_ok smallB_ok
    · cases e
  | fdiv =>
    simp only [binI] at e
    split at e
    · rename_i h
      cases e
      exact iop_fdiv pins s σ H _ _ v u Q I rx ry ⟨i, j, rfl, rfl, h, q _ rfl⟩
    · cases e
  | mod =>
    simp only [binI] at e
    split at e
    · rename_i h
      cases e
      exact iop_mod pins s σ H _ _ v u Q I rx ry ⟨i, j, rfl, rfl, h, q _ rfl⟩
    · cases e
  | shl =>
    simp only [binI] at e
    split at e
    · rename_i h
      cases e
      exact iop_shl pins s σ H _ _ v u Q I rx ry ⟨i, j, rfl, rfl, h, q _ rfl⟩
    · cases e
  | shr =>
    simp only [binI] at e
    split at e
    · rename_i h
      cases e
      exact iop_shr pins s σ H _ _ v u Q I rx ry ⟨i, j, rfl, rfl, h, q _ rfl⟩
    · cases e
  | band => cases e; exact iop_and pins s σ H _ _ v u Q I rx ry ⟨i, j, rfl, rfl, q _ rfl⟩
  | bor => cases e; exact iop_or pins s σ H _ _ v u Q I rx ry ⟨i, j, rfl, rfl, q _ rfl⟩
  | bxor => cases e; exact iop_xor pins s σ H _ _ v u Q I rx ry ⟨i, j, rfl, rfl, q _ rfl⟩
theorem asInt_ok {d : D} {i : Int} (h : asInt d = .ok i) : d = .int i := by
  cases d <;> cases h
  rfl
theorem psAug {i : Nat} {y : Str} {py : Pos} {op : BOp} {e : Expr} {x : Ex} (hN : X.N.Nodup) (hi : X.N[i]? = some y) (hx : Loc X.env.scope y) (hf : X.fn y = true ∨ X.env.scope.names.lookup y = some .local) (he : PE X e (tE X.K P G x)) (hb : isB x = false) (hp : op ≠ .pow) :
    PS X (.AugAssign (.Name y py) (astB op) e pos) (tS X.K P G W (.aug i op x)) := by
  refine psLen (ps_aug hN hi hx he (ip_binI hp) hf) fun D σ H hσ h => ?_
  obtain ⟨en, φ, ok, fl, en', he, q⟩ := h
  unfold ex at he
  split at he
  · rename_i d0 g
    obtain ⟨a, f0, he0⟩ := Res.bind_ok he
    obtain ⟨⟨d, e1⟩, f1, he1⟩ := Res.bind_ok he0
    obtain ⟨b, f2, he2⟩ := Res.bind_ok he1
    obtain ⟨c, f3, he3⟩ := Res.bind_ok he2
    cases he3
    cases asInt_ok f0
    cases asInt_ok f2
    obtain ⟨v, s1, r⟩ := ok.fz g
    cases r
    refine ⟨_, s1, en, φ, ok, _, e1, f1, fun w H1 ok1 ev1 v1 => ?_⟩
    have r1 := val_rep hb v1
    cases r1
    refine ⟨a, b, c, rfl, rfl, f3, fun k ek => ?_⟩
    subst ek
    have hil := lt_of_slot ok1 hσ (List.getElem?_eq_some_iff.mp hi).1
    exact q _ H1 _ (env_set ok1 (.int k) hil) ⟨ev1, fun a ha => .inl (own_clr ha)⟩ fun j hj => set_out hj (by simp [asgd])
  · cases he
theorem get_sub : PGet X (rIxL X.K) := by
  intro pins s σ H o i ov iv Q I ro ri h
  obtain ⟨p, xs, k, z, rfl, rfl, hq, he, q⟩ := h
  cases ro
  obtain ⟨t, rfl⟩ := ri
  obtain ⟨its, r, pl, hz⟩ := I.list hq
  obtain ⟨j, h1, h2, h3, h4, h5⟩ := atI_get he
  obtain ⟨w, ew, rw'⟩ := r.get h2
  have hl := r.length
  have hn := line63
  have fin : EP X pins σ Q w s := ⟨z, H, I, rw', q⟩
  by_cases h0 : 0 ≤ k
  · have hj : k.toNat = j := by
      rw [seqIndex_of h0 h5] at h1
      exact Option.some.inj h1
    exact wpAny_getItem_list pl.isList h0 (by omega) (by rw [hj]; simpa using ew) fin
  · have hj : (k + (its.toArray.size : Int)).toNat = j := by
      rw [seqIndex_neg (by omega) h4] at h1
      rw [List.size_toArray, ← hl]
      exact Option.some.inj h1
    exact wpAny_getItem_list_neg pl.isList (by omega) (by rw [List.size_toArray]; omega) (by omega) (by rw [hj]; simpa using ew) fin
theorem psAugI {y : Str} {py tpos : Pos} {i : Nat} {op : BOp} {ix e : Expr} {z x : Ex} (ho : PE X (.Name y py) (tE X.K P G (.bvar i))) (hi : PE X ix (tE X.K P G z)) (he : PE X e (tE X.K P G x)) (hb : isB x = false) (hz : isB z = false) (hs : noSlice ix = true) (hp : op ≠ .pow) :
    PS X (.AugAssign (.Subscript (.Name y py) ix tpos) (astB op) e pos) (tS X.K P G W (.augI i z op x)) := by
  refine psImp (ps_augS ho hi get_sub he (ip_binI hp) set_list (fun ov iv new => by cases ix <;> first | rfl | cases hs)) fun D σ H h => ?_
  obtain ⟨en, φ, ok, fl, en', he, q⟩ := h
  unfold ex at he
  obtain ⟨⟨o, e0⟩, f0, he0⟩ := Res.bind_ok he
  obtain ⟨⟨k, e2⟩, f2, he2⟩ := Res.bind_ok he0
  split at he2
  · rename_i xs kk g1 g2
    obtain ⟨old, f3, he3⟩ := Res.bind_ok he2
    obtain ⟨a, f4, he4⟩ := Res.bind_ok he3
    obtain ⟨⟨d, e3⟩, f5, he5⟩ := Res.bind_ok he4
    obtain ⟨b, f6, he6⟩ := Res.bind_ok he5
    obtain ⟨c, f7, he7⟩ := Res.bind_ok he6
    have g2 : k = .int kk := g2
    subst g2
    have g1 : getS e2 i = .ow xs := g1
    cases asInt_ok f4
    cases asInt_ok f6
    split at he7
    · rename_i ys g3
      obtain ⟨es, f8, he8⟩ := Res.bind_ok he7
      cases he8
      have g3 : getS e3 i = .ow ys := g3
      refine ⟨en, φ, ok, o, e0, f0, fun w H0 ok0 ev0 v0 => ⟨e0, φ, ok0, .int kk, e2, f2, fun u H2 ok2 ev2 v2 => ?_⟩⟩
      obtain ⟨p, vs, s1, s2, r, s3⟩ := ok2.ow g1
      have v0 : σ[i]? = some (some w) := v0
      rw [v0] at s1
      cases s1
      have r2 := val_rep hz v2
      cases r2
      obtain ⟨x0, a1, a2⟩ := atI_reps r (ofO_ok f3)
      cases a2
      refine ⟨p, vs, kk, _, rfl, rfl, .of s2, a1, e2, φ, ok2, _, e3, f5, fun t H3 ok3 ev3 v3 => ?_⟩
      have r3 := val_rep hb v3
      cases r3
      refine ⟨a, b, c, rfl, rfl, f7, fun m em => ?_⟩
      subst em
      obtain ⟨p', ws, t1, t2, r', t3⟩ := ok3.ow g3
      rw [v0] at t1
      cases t1
      obtain ⟨j, j1, j2⟩ := putIx_reps r' (.int m) (ofO_ok f8)
      exact ⟨p, ws, kk, j, rfl, rfl, t2, j1, q σ _ φ (env_write ok3 g3 v0 t2 t3 j2) (.of (((ev0.trans' ev2).trans' ev3).trans' (evo_write t2 t3))) fun _ _ => rfl⟩
    · cases he7
  · cases he2
theorem psAugII {y : Str} {py p1 tpos : Pos} {i : Nat} {op : BOp} {ix jx e : Expr} {z w x : Ex} (hN : X.N[i]? = some y) (hv : Vis X.env.scope y) (h1 : (y == ("__debug__" : Str)) = false) (h2 : (y == ("__classdict__" : Str)) = false) (hi : PE X ix (tE X.K P G z)) (hz : isB z = false) (hs : noSlice ix = true) (hqz : quiet z = true) (hj : PE X jx (tE X.K P G w)) (hw : isB w = false) (hs2 : noSlice jx = true) (hqw : quiet w = true)
    (he : PE X e (tE X.K P G x)) (hb : isB x = false) (hp : op ≠ .pow) : PS X (.AugAssign (.Subscript (.Subscript (.Name y py) ix p1) jx tpos) (astB op) e pos) (tS X.K P G W (.augII i z w op x)) := by
  refine psImp (ps_augS (peRow (P := P) (G := G) hN hv h1 h2 hi hz hs) hj get_sub he (ip_binI hp) set_list (fun ov iv new => by cases jx <;> first | rfl | cases hs2)) fun D σ H h => ?_
  obtain ⟨en, φ, ok, fl, en', he, q⟩ := h
  unfold ex at he
  obtain ⟨⟨k, e1⟩, f1, he1⟩ := Res.bind_ok he
  obtain ⟨⟨l, e2⟩, f2, he2⟩ := Res.bind_ok he1
  dsimp only at he2
  split at he2
  · rename_i rows kk ll g1
    obtain ⟨row, f3, he3⟩ := Res.bind_ok he2
    obtain ⟨old, f4, he4⟩ := Res.bind_ok he3
    obtain ⟨a, f5, he5⟩ := Res.bind_ok he4
    obtain ⟨⟨d, e3⟩, f6, he6⟩ := Res.bind_ok he5
    obtain ⟨b, f7, he7⟩ := Res.bind_ok he6
    obtain ⟨c, f8, he8⟩ := Res.bind_ok he7
    cases asInt_ok f5
    cases asInt_ok f7
    split at he8
    · rename_i rows2 g3
      obtain ⟨rows', f9, he9⟩ := Res.bind_ok he8
      cases he9
      obtain rfl := evQuiet z _ _ _ hqz f1
      obtain rfl := evQuiet w _ _ _ hqw f2
      have g3 : getS e3 i = .om rows2 := g3
      refine ⟨_, φ, ok, rows, kk, row, g1, f1, ofO_ok f3, fun bs j bb xs H1 ok1 ev1 hφ z1 z2 r1 z4 z5 => ⟨_, φ, ok1, .int ll, _, f2, fun u H2 ok2 ev2 v2 => ?_⟩⟩
      have r2 := val_rep hw v2
      cases r2
      obtain ⟨p, bs', t1, t2, rr, t3, t4⟩ := ok2.om g1
      have hφ' : φ i = p :: bs := by
        rw [t1] at hφ
        exact hφ
      rw [hφ'] at t3
      cases t3
      obtain ⟨j', b', xs', w1, w2, w3, w4, w5⟩ := rws_at rr (ofO_ok f3)
      rw [z1] at w1
      cases w1
      rw [z2] at w2
      cases w2
      obtain ⟨x0, a1, a2⟩ := atI_reps w5 (ofO_ok f4)
      cases a2
      refine ⟨bb, xs', ll, _, rfl, rfl, .of w4, a1, _, φ, ok2, _, e3, f6, fun t H3 ok3 ev3 v3 => ?_⟩
      have r3 := val_rep hb v3
      cases r3
      refine ⟨a, b, c, rfl, rfl, f8, fun m em => ?_⟩
      subst em
      have hlen : rows2.length = rows.length := by
        obtain ⟨_, bs2, _, _, q1, q2, _⟩ := ok3.om g3
        rw [hφ'] at q2
        cases q2
        rw [← q1.len, ← rr.len]
      obtain ⟨ys, j2, y1, y2, y3, y4⟩ := om_write ok3 g3 (ofO_ok f9) (.int m) t1 hφ' (by rw [hlen]; exact z1) z2
      exact ⟨bb, ys, ll, j2, rfl, rfl, y1, y2, q σ _ φ y3 (.of (((ev1.trans' ev2).trans' ev3).trans' y4)) fun _ _ => rfl⟩
    · cases he8
  · cases he2
end
end Vi

/-! Vi, part 17d: dicts whose keys are ints and texts. -/
namespace Vi
open PySem PySem.Spec PyProof.Rows
open L2
variable [Wx]

theorem key_of {K : PySem.W.Frag} {H : Hp} {v : V} {d : D} (h : keyOk d = true) (r : Rep K H v d) : ∃ k, v = kV k ∧ d = dK k := by
  cases d <;> try cases h
  · cases r; exact ⟨.inl _, rfl, rfl⟩
  · cases r; exact ⟨.inr _, rfl, rfl⟩
theorem keyEq_dK (a b : Key) : keyEq (dK a) (dK b) = decide (a = b) := by
  cases a <;> cases b <;> simp [keyEq, dK]
theorem dget_reps {K : PySem.W.Frag} {H : Hp} {k : Key} {d : D} : ∀ {kvs : List (Key × V)} {vs : List D}, Reps K H (kvs.map (·.2)) vs → dget (kvs.map fun kv => dK kv.1) vs (dK k) = some d → ∃ v, valV kvs k = some v ∧ Rep K H v d
  | [], vs, r, h => by cases h
  | kv :: kvs, vs, r, h => by
    cases r with
    | cons r1 r2 =>
      rw [List.map_cons] at h
      unfold dget at h
      rw [keyEq_dK] at h
      by_cases e : kv.1 = k
      · rw [if_pos (decide_eq_true e)] at h
        cases h
        exact ⟨_, valV_pos e, r1⟩
      · rw [if_neg (by simpa using e)] at h
        rw [valV_neg e]
        exact dget_reps r2 h
theorem dset_reps {K : PySem.W.Frag} {H : Hp} {k : Key} {v : V} {d : D} (rv : Rep K H v d) : ∀ {kvs : List (Key × V)} {vs : List D}, Reps K H (kvs.map (·.2)) vs →
    Reps K H ((kvs.map fun kv => if kv.1 = k then (kv.1, v) else kv).map (·.2)) (dset (kvs.map fun kv => dK kv.1) vs (dK k) d)
  | [], vs, r => by cases r; exact .nil
  | kv :: kvs, vs, r => by
    cases r with
    | cons r1 r2 =>
      rw [List.map_cons, List.map_cons, List.map_cons]
      unfold dset
      rw [keyEq_dK]
      refine .cons ?_ (dset_reps rv r2)
      by_cases e : kv.1 = k
      · rw [if_pos e, if_pos (decide_eq_true e)]; exact rv
      · rw [if_neg e, if_neg (by simpa using e)]; exact r1
theorem any_dK {k : Key} : ∀ kvs : List (Key × V), ((kvs.map fun kv => dK kv.1).any fun x => keyEq x (dK k)) = kvs.any fun kv => decide (kv.1 = k)
  | [] => rfl
  | kv :: kvs => by rw [List.map_cons, List.any_cons, List.any_cons, any_dK kvs, keyEq_dK]
theorem dput_reps {K : PySem.W.Frag} {H : Hp} {k : Key} {v : V} {d : D} {kvs : List (Key × V)} {vs : List D} (rv : Rep K H v d) (r : Reps K H (kvs.map (·.2)) vs) :
    (dput (kvs.map fun kv => dK kv.1) vs (dK k) d).1 = (L2.putK kvs k v).map (fun kv => dK kv.1) ∧ Reps K H ((L2.putK kvs k v).map (·.2)) (dput (kvs.map fun kv => dK kv.1) vs (dK k) d).2 := by
  unfold dput L2.putK
  rw [any_dK]
  by_cases e : (kvs.any fun kv => decide (kv.1 = k)) = true
  · rw [if_pos e, if_pos e]
    refine ⟨?_, dset_reps rv r⟩
    rw [List.map_map]
    refine List.map_congr_left fun kv _ => ?_
    show dK kv.1 = dK (if kv.1 = k then (kv.1, v) else kv).1
    split <;> rfl
  · rw [if_neg e, if_neg e, List.map_append, List.map_append]
    exact ⟨rfl, r.append (.cons rv .nil)⟩
section
variable {X : Cx} {P : Tb} {G : List D} {W : WX} {pos : Pos}
theorem peDnew : PE X (.Dict [] [] pos) (tO X.K P G .dnew) := by
  refine peImp pe_dnewK fun σ H Q h => ?_
  obtain ⟨en, φ, ok, d, en', he, q⟩ := h
  cases he
  intro p hp
  exact q _ _ (ok.mono (same_upd hp)) (.of (same_upd hp)) ⟨p, [], rfl, .of hp, upd_same, rfl, .nil⟩
theorem peDsub {a b : Expr} {x y : Ex} (hu : X.A.units + 1 < cLine) (ha : PE X a (tE X.K P G x)) (hb : PE X b (tE X.K P G y)) (hq : isB x = false ∨ quiet y = true) (hy : isB y = false) (hs : noSlice b = true) : PE X (.Subscript a b pos) (tE X.K P G (.dsub x y)) := by
  refine peImp (pe_dget hu ha hb (fun _ _ => by cases b <;> first | rfl | cases hs)) fun σ H Q h => ?_
  obtain ⟨en, φ, ok, d, en', he, q⟩ := h
  unfold ev at he
  obtain ⟨⟨d1, e1⟩, f1, he1⟩ := Res.bind_ok he
  obtain ⟨⟨d2, e2⟩, f2, he2⟩ := Res.bind_ok he1
  dsimp only at he2
  split at he2
  · rename_i ks vs
    split at he2
    · rename_i hk
      obtain ⟨c, f3, he3⟩ := Res.bind_ok he2
      cases he3
      refine ⟨en, φ, ok, _, e1, f1, fun v H1 ok1 ev1 v1 => ⟨e1, φ, ok1, d2, _, f2, fun w H2 ok2 ev2 v2 => ?_⟩⟩
      obtain ⟨n1, n2⟩ := pair_nw (v1 := v) (v2 := w) (H1 := H1) hq f1 f2 ok2 (v1.mono ev2.fz) v2
      obtain ⟨p, kvs, rfl, rd, hks, r⟩ := n1
      obtain ⟨k, rfl, rfl⟩ := key_of hk (val_rep hy v2)
      rw [hks] at f3
      obtain ⟨u, e3, ru⟩ := dget_reps r (ofO_ok f3)
      exact ⟨p, u, rfl, .inl ⟨kvs, k, rd, rfl, e3.symm⟩, q u H2 ok2 (ev1.trans' ev2) ru⟩
    · cases he2
  · cases he2
/-! d[k] = e -/
theorem env_writeD {K : PySem.W.Frag} {H : Hp} {σ : L2.St} {en : En} {φ : Fp} {i : Nat} {a : Addr} {kvs kvs' : List (Key × V)} {ks' vs' : List D} (h : EnvOk K H σ en φ) (e1 : σ[i]? = some (some (.ref a))) (e2 : H a = some (.dK kvs)) (e3 : φ i = [a])
    (hk : ks' = kvs'.map fun kv => dK kv.1) (r : Reps K H (kvs'.map (·.2)) vs') : EnvOk K (upd H a (.dK kvs')) σ (en.set i (.od ks' vs')) φ := by
  have hi : i < en.length := by rw [← h.len]; exact (List.getElem?_eq_some_iff.mp e1).1
  have fz : FzS H (upd H a (.dK kvs')) := fzS_upd fun u e f => by rw [e2] at e; cases e; exact f
  refine ⟨by rw [List.length_set]; exact h.len, fun j => ?_, h.dis, tabs_upd h.tb e2 (fun z => z)⟩
  rw [getS_set]
  by_cases z : i = j
  · subst z
    rw [if_pos ⟨rfl, hi⟩]
    exact ⟨a, kvs', e1, upd_same, hk, r.mono fz, e3⟩
  · rw [if_neg fun q => z q.1]
    refine slotOk_mono (h.slot j) fz fun b hb u _ eb => (upd_ne fun w => ?_).trans eb
    subst w
    exact z (h.dis i j b (by rw [e3]; exact List.mem_singleton.mpr rfl) hb)
theorem psDset {y : Str} {py ppos : Pos} {i : Nat} {ix e : Expr} {z x : Ex} (hu : X.A.units + 1 < cLine) (ho : PE X (.Name y py) (tE X.K P G (.bvar i))) (hi : PE X ix (tE X.K P G z)) (he : PE X e (tE X.K P G x)) (hb : isB x = false) (hz : isB z = false) (hs : noSlice ix = true) :
    PS X (.Assign [.Subscript (.Name y py) ix ppos] e pos) (tS X.K P G W (.dsetI i z x)) := by
  have hg : PG X (.Subscript (.Name y py) ix ppos) (gSub (tE X.K P G (.bvar i)) (tE X.K P G z) rSetD) := pg_sub ho hi (set_dict hu) fun v => by cases ix <;> first | rfl | cases hs
  refine psImp (ps_asg he hg (show swapsWith e (some (.Subscript (.Name y py) ix ppos)) pos.line X.env = pure false from swaps_sub) swapped_sub) fun D σ H h => ?_
  obtain ⟨en, φ, ok, fl, en', he, q⟩ := h
  unfold ex at he
  obtain ⟨⟨d, e1⟩, f1, he1⟩ := Res.bind_ok he
  obtain ⟨⟨o, e0⟩, f0, he0⟩ := Res.bind_ok he1
  obtain ⟨⟨k, e2⟩, f2, he2⟩ := Res.bind_ok he0
  split at he2
  · rename_i ks vs g1
    split at he2
    · rename_i hk
      cases he2
      have g1 : getS e2 i = .od ks vs := g1
      refine ⟨en, φ, ok, d, e1, f1, fun v H1 ok1 ev1 v1 => ⟨e1, φ, ok1, o, e0, f0, fun w H0 ok0 ev0 v0 => ⟨e0, φ, ok0, k, e2, f2, fun u H2 ok2 ev2 v2 => ?_⟩⟩⟩
      obtain ⟨a, kvs, s1, s2, hks, r, s3⟩ := ok2.od g1
      have v0 : σ[i]? = some (some w) := v0
      rw [v0] at s1
      cases s1
      obtain ⟨kk, rfl, e4⟩ := key_of hk.1 (val_rep hz v2)
      have e4 : k = dK kk := e4
      subst e4
      have rv : Rep X.K H2 v d := ((val_rep hb v1).mono ev0.fz).mono ev2.fz
      obtain ⟨p1, p2⟩ := dput_reps (k := kk) rv r
      have hl : kvs.length < sizeLine := by
        have z := hk.2
        rw [hks, List.length_map, line_eq] at z
        exact z
      refine ⟨a, _, rfl, DPut.k s2 hl, ?_⟩
      refine q σ _ φ (env_writeD ok2 v0 s2 s3 (by rw [hks]; exact p1) (by rw [hks]; exact p2)) (.of (((ev1.trans' ev0).trans' ev2).trans' (.upd s2 trivial (.inl ⟨i, by rw [s3]; exact List.mem_singleton.mpr rfl⟩) (fzS_upd fun u e f => by rw [s2] at e; cases e; exact f)))) fun _ _ => rfl
    · cases he2
  · cases he2
/-! for k in d -/
theorem wlk_keys {K : PySem.W.Frag} {H : Hp} {a : Addr} {o : Obj} {kvs : List (Key × V)} (h : H a = some (.frz o (.dK kvs))) : Wlk K (Itk a o kvs) (kvs.map fun kv => dK kv.1) H := by
  refine ⟨fun H => H a = some (.frz o (.dK kvs)), _, by rw [List.length_map]; exact walk_keys, h, fun H1 H2 g f => f a _ g trivial, fun i H1 x H2 d hi g hd hy => ?_⟩
  obtain ⟨rfl, k, v, e1, rfl⟩ := hy
  rw [List.getElem?_map, e1] at hd
  cases hd
  exact ⟨.refl _, key_rep k⟩
theorem piKeys {tg e : Expr} {x : Ex} (he : PE X e (tE X.K P G x)) (hx : isB x = false) : PI X tg e (tI X.K P G .keys (.cons x .nil)) := by
  refine ⟨fun pins s σ H R I q => ?_⟩
  obtain ⟨en, φ, ok, ds, en', its, h1, h2, q⟩ := q
  obtain ⟨d, rfl, h3⟩ := evs1 h1
  cases d <;> try cases h2
  refine (piInv (pi_keys he)).run pins s σ H R I ⟨en, φ, ok, _, en', h3, fun v H1 ok1 ev1 v1 => ?_⟩
  have r := val_rep hx v1
  cases r with
  | dic e k r =>
    subst k
    refine ⟨_, _, rfl, .inl ⟨_, e, fun z => q _ H1 ok1 ev1 (wlk_keys e) ?_⟩⟩
    obtain ⟨_, _, I'⟩ := z
    have z := (I'.hok _ _ e).2.1
    rw [List.length_map, line_eq]
    exact z
end
end Vi

/-! Vi, part 17s: sorted(set(xs)), len(set(xs)) of ints. -/
namespace Vi
open PySem PySem.Spec PyProof.Rows
open L2
variable [Wx]

/-- a set that was just made -/
abbrev set0 (w : World) : Obj :=
  { cls := .type "set", dict := none,
    data := .set #[] 0 (.fresh 0 0 (!w.params.followText "set-order")) }
section
variable {P : Program} {w : World} {A : Around} {E : Value → Shared → Prop} {s : Shared}
set_option maxHeartbeats 4000000
theorem call_setL {l : Addr} {its : Array Value} (ns : List Int) {Q : Value → Shared → Prop} (hh : A.handled = none)
    (pl : s.heap.IsList l its) (hi : IntsAre its.toList ns) (hlen : ns.length + 1 < scanBound)
    (fin : ∀ (h' : Heap) (tk c : Nat), SetR w h' s.heap.objs.size (fun j => decide (j ∈ ns)) c → c ≤ ns.length →
      (∀ b o, s.heap.get? b = some o → h'.get? b = some o) → Q (.ref s.heap.objs.size) { s with heap := h', toks := tk }) :
    wpAny (model P w) A (call (.type "set") [.ref l]) Q E s := by
  have hsz : its.size = ns.length := by
    have z := IntsAre.length hi
    rwa [Array.length_toList] at z
  obtain ⟨c, tl, hmro⟩ := F.called_set.mro
  have m1 := F.called_set.made
  have m2 := F.called_set.sub
  refine wpAny_call (codeAny_of_tree ?_)
  show wpAny _ _ (callAny (.type "set") _) _ _ _
  refine wpAny_pure ⟨Code.quiet_builtin _ (by decide +kernel), ?_⟩
  refine codeAny_builtin F.entry_type_call ?_
  rw [Around.under_plain (weight_type_call_type "set" [Value.ref l] []) rfl]
  have m3 := F.called_set.notType
  have m4 := F.called_set.canCreate
  have m5 := F.typeCall_set_1 (.ref l)
  repeat (any_goals (first | assumption | wp_step))
  refine codeAny_mono (code_set_led1 (.ref l) (E := E)
    (Q₁ := fun u t => u = .ref s.heap.objs.size ∧ t = { s with heap := s.heap.push (set0 w) }) ⟨rfl, rfl⟩) fun r t hr => ?_
  cases r with
  | error e => exact hr
  | ok fl =>
    cases fl <;> try exact hr.elim
    obtain ⟨rfl, rfl⟩ := hr
    have g0 : (s.heap.push (set0 w)).get? s.heap.objs.size = some (set0 w) := Heap.get?_push_size _ rfl
    have ty : Shared.TypeIs { s with heap := s.heap.push (set0 w) } (.ref s.heap.objs.size) "set" := ⟨_, g0, rfl⟩
    have m6 := F.called_set.init.lookup
    have m7 := F.called_set.init.bind (.ref s.heap.objs.size)
    repeat (any_goals (first | assumption | wp_step))
    refine codeAny_mono (codeAny_call_builtin (R := wants (fun r t => r = .none ∧ ∃ h' tk c, t = { s with heap := h', toks := tk } ∧
        SetR w h' s.heap.objs.size (fun j => decide (j ∈ ns)) c ∧ c ≤ ns.length ∧ ∀ b o, s.heap.get? b = some o → h'.get? b = some o) E)
      F.called_set.init.plain F.entry_set_init (check_set_init_1 ty ?_)) fun r2 t2 hr2 => ?_
    · obtain ⟨ol, hol, hcl, nl, hdl⟩ := pl
      obtain ⟨oc, od, oda, os⟩ := ol
      simp only at hcl hdl
      subst hcl
      subst hdl
      have g1 : (s.heap.push (set0 w)).get? l = some { cls := .type "list", dict := od, data := .seq its nl, slots := os } := Heap.get?_push_of_some _ hol
      have m8 := F.sub_list_set
      have m9 := F.sub_list_frozenset
      have mA : (Value.type "list" == Value.type "dict") = false := by decide
      have pl1 : (s.heap.push (set0 w)).IsList l its := ⟨_, g1, rfl, nl, rfl⟩
      unfold Builtin.«set.__init__» noKeywords Builtin.Frozenset.updateFrom
      generalize hPI : pyIter = PI
      wp_walk
      subst hPI
      refine wpAny_pyIter_list pl1 ?_
      refine wpAny_bind (wpAny_runValue ?_)
      have lt : l < s.heap.objs.size := Heap.lt_size hol
      have h3 : A.in1.in1.in1.handled = none := by simp [hh]
      have sz1 : (s.heap.push (set0 w)).objs.size = s.heap.objs.size + 1 := Heap.size_push ..
      have ne1 : l ≠ (s.heap.push (set0 w)).objs.size := by
        rw [sz1]
        exact Nat.ne_of_lt (Nat.lt_succ_of_lt lt)
      have nS : s.heap.objs.size ∉ [(s.heap.push (set0 w)).objs.size, l] := by
        rw [sz1]
        simp only [List.mem_cons, List.not_mem_nil, or_false, not_or]
        exact ⟨Nat.ne_of_lt (Nat.lt_succ_self _), Nat.ne_of_gt lt⟩
      have vals : ∀ (i : Nat) (v : Value), its[i]? = some v → ∃ k t, ns[i]? = some k ∧ v = .int k t := fun i v hv => by
        have hlt : i < ns.length := by
          rw [← hsz]
          exact (Array.getElem?_eq_some_iff.mp hv).1
        obtain ⟨t, e⟩ := PyProof.Rows.IntsAre.int_at hi i v (by rw [Array.getElem?_toList]; exact hv)
        refine ⟨ns[i], t, List.getElem?_eq_getElem hlt, ?_⟩
        rw [e, List.getD_eq_getElem?_getD, List.getElem?_eq_getElem hlt]
        rfl
      refine set_update_ints ((Walks.list h3 _ l ne1 its).toS) s.heap.objs.size nS ns hsz hlen vals (its.size - 0) 0 _ (by omega) (Nat.zero_le _)
        ⟨⟨_, Heap.get?_push_size _ rfl, rfl, rfl⟩, (pl1.push _)⟩ ?start ?done
      case start =>
        have g2 : ((s.heap.push (set0 w)).push { cls := .type "list_iterator", data := .fields #[.ref l, .int 0 0] }).get? s.heap.objs.size = some (set0 w) := Heap.get?_push_of_some _ g0
        exact ⟨0, Nat.le_refl 0, setR_new_at g2⟩
      case done =>
        intro s' c' mv hc' R'
        obtain ⟨h', gg, dd, tk', oo⟩ := s'
        have e1 : gg = s.gens := mv.gens
        have e2 : dd = s.drawn := mv.drawn
        have e3 : oo = s.os := mv.os
        subst e1
        subst e2
        subst e3
        show wpAny _ _ _ _ _ _
        refine wpAny_pure ?_
        show wpAny _ _ (ret Value.none) _ _ _
        rw [hsz] at hc'
        refine wpAny_pure ⟨rfl, h', tk', c', rfl, R', hc', fun b o e => ?_⟩
        have hb := Heap.lt_size e
        refine mv.heap b o ?_ (Heap.get?_push_of_some _ (Heap.get?_push_of_some _ e))
        rw [sz1]
        simp only [List.mem_cons, List.not_mem_nil, or_false, not_or]
        exact ⟨Nat.ne_of_lt hb, Nat.ne_of_lt (Nat.lt_succ_of_lt hb)⟩
    · cases r2 with
      | error e => exact hr2
      | ok fl2 =>
        cases fl2 <;> try exact hr2.elim
        obtain ⟨rfl, h', tk, c', rfl, R', hc', kp⟩ := hr2
        repeat (any_goals (first | assumption | wp_step))
        exact fin _ _ _ R' hc' kp
end
end Vi

/-! Vi, part 17t: the expression sorted(set(xs)). -/
namespace Vi
open PySem PySem.Spec PyProof.Rows
open L2
variable [Wx]

theorem insI_mem {x z : Int} : ∀ {l : List Int}, z ∈ insI x l ↔ z = x ∨ z ∈ l
  | [] => by simp [insI]
  | y :: ys => by
    unfold insI
    split
    · simp
    · split
      · rename_i h; subst h; simp
      · rw [List.mem_cons, insI_mem (l := ys), List.mem_cons]
        constructor
        · rintro (h | h | h)
          · exact .inr (.inl h)
          · exact .inl h
          · exact .inr (.inr h)
        · rintro (h | h | h)
          · exact .inr (.inl h)
          · exact .inl h
          · exact .inr (.inr h)
theorem risI_mem {z : Int} : ∀ {l : List Int}, z ∈ risI l ↔ z ∈ l
  | [] => by simp [risI]
  | x :: xs => by unfold risI; rw [insI_mem, risI_mem (l := xs), List.mem_cons]
theorem insI_rise {x : Int} : ∀ {l : List Int}, l.Pairwise (· < ·) → (insI x l).Pairwise (· < ·)
  | [], _ => List.pairwise_singleton _ _
  | y :: ys, h => by
    obtain ⟨h1, h2⟩ := List.pairwise_cons.mp h
    unfold insI
    split
    · rename_i e
      refine List.pairwise_cons.mpr ⟨fun z hz => ?_, h⟩
      rcases List.mem_cons.mp hz with rfl | hz
      · exact e
      · exact Int.lt_trans e (h1 z hz)
    · split
      · exact h
      · rename_i e1 e2
        refine List.pairwise_cons.mpr ⟨fun z hz => ?_, insI_rise h2⟩
        rcases insI_mem.mp hz with rfl | hz
        · omega
        · exact h1 z hz
theorem risI_rise : ∀ l : List Int, (risI l).Pairwise (· < ·)
  | [] => List.Pairwise.nil
  | x :: xs => insI_rise (risI_rise xs)
theorem rise_uniq : ∀ {a b : List Int}, a.Pairwise (· < ·) → b.Pairwise (· < ·) → (∀ z, z ∈ a ↔ z ∈ b) → a = b
  | [], [], _, _, _ => rfl
  | [], y :: ys, _, _, h => by have z := (h y).mpr List.mem_cons_self; cases z
  | x :: xs, [], _, _, h => by have z := (h x).mp List.mem_cons_self; cases z
  | x :: xs, y :: ys, ha, hb, h => by
    obtain ⟨a1, a2⟩ := List.pairwise_cons.mp ha
    obtain ⟨b1, b2⟩ := List.pairwise_cons.mp hb
    have e : x = y := by
      have k1 := (h x).mp List.mem_cons_self
      have k2 := (h y).mpr List.mem_cons_self
      rcases List.mem_cons.mp k1 with k1 | k1
      · exact k1
      · rcases List.mem_cons.mp k2 with k2 | k2
        · exact k2.symm
        · have := a1 y k2
          have := b1 x k1
          omega
    subst e
    rw [rise_uniq a2 b2 fun z => ?_]
    constructor
    · intro hz
      have := a1 z hz
      rcases List.mem_cons.mp ((h z).mp (List.mem_cons_of_mem _ hz)) with e | k
      · omega
      · exact k
    · intro hz
      have := b1 z hz
      rcases List.mem_cons.mp ((h z).mpr (List.mem_cons_of_mem _ hz)) with e | k
      · omega
      · exact k
section
variable {X : Cx} {P : Tb} {G : List D} {pos : Pos}
def rSetL (K : PySem.W.Frag) (w : World) : List V → Hp → VK → Prop := fun vs H Q => ∃ (a : Addr) (ns : List Int), vs = [V.ref a] ∧ SqL K H a (ns.map V.int) ∧ ns.length < 60 ∧
  ∀ (p : Addr) (c : Nat), H p = none → c ≤ ns.length → Q (.ref p) (upd H p (SetO w p (fun j => decide (j ∈ ns)) c))
theorem cr_setL (hc : X.calm = true) : CallR X (.type "set") (rSetL X.K X.w) := by
  intro pins s σ H vs us Q I r h
  obtain ⟨a, ns, rfl, hs, hl, q⟩ := h
  obtain ⟨its, rv, pl, hz⟩ := I.list hs
  rw [Vals.ref1 r]
  refine call_setL ns (I.ok.hd hc) pl.isList rv.ints (by unfold scanBound; omega) fun h' tk c R hcn kp => ?_
  have hf : H s.heap.objs.size = none := I.fresh
  exact ⟨.ref s.heap.objs.size, upd H s.heap.objs.size (SetO X.w s.heap.objs.size (fun j => decide (j ∈ ns)) c), I.laid (t' := tk) kp (Nat.le_refl _) (setO_new R), rfl, q _ c hf hcn⟩
theorem peSset {p p2 q : Pos} {e : Expr} {x : Ex} (hc : X.calm = true) (hg : Gl X "sorted") (hm : X.mg "sorted" = none) (hg2 : Gl X "set") (hm2 : X.mg "set" = none) (he : PE X e (tE X.K P G x)) (hx : isB x = false) (hs : noStar e = true) :
    PE X (.Call (.Name "sorted" p) [.Call (.Name "set" p2) [e] [] q] [] pos) (tO X.K P G (.sset x)) := by
  have inner := pe_callTy (p := p2) (pos := q) (cr_setL hc) hg2 hm2 PyProof.Rows.boot_set (pa_cons he pa_nil (star1 hs)) (by decide) (by decide) (star1 hs) rfl
  refine peImp (pe_callB (cr_sortedSet hc) hg hm PyProof.Rows.boot_sorted (pa_cons inner pa_nil)) fun σ H Q h => ?_
  obtain ⟨en, φ, ok, d, en', he, q⟩ := h
  unfold ev at he
  obtain ⟨⟨d1, e1⟩, f1, he1⟩ := Res.bind_ok he
  dsimp only at he1
  cases d1 <;> try cases he1
  · rename_i xs
    obtain ⟨ns, f2, he2⟩ := Res.bind_ok he1
    split at he2
    · rename_i hlen
      cases he2
      refine ⟨en, φ, ok, _, _, f1, fun v H1 ok1 ev1 v1 => ?_⟩
      obtain ⟨a, vs, rfl, ha, r⟩ := rep_fzL (val_rep hx v1)
      have hv := reps_ints r f2
      refine ⟨a, ns, rfl, by rw [← hv]; exact ha.sq, hlen, fun t c ht hcn => ?_⟩
      refine ⟨t, _, c, rfl, upd_same, by omega, fun out l hr hmem hout hl => ?_⟩
      have e : out = risI ns := rise_uniq hr (risI_rise ns) fun z => by rw [hmem z, risI_mem]; simp
      subst e
      have s1 : Same H1 (upd H1 t (SetO X.w t (fun j => decide (j ∈ ns)) c)) := same_upd ht
      have s2 := s1.trans (same_upd (o := .lst ((risI ns).map V.int)) hl)
      refine q _ _ (ok1.mono s2) (ev1.trans' (.of s2)) ⟨l, _, rfl, none_before ok1 ev1 (.of (s1.free hl)), upd_same, ?_⟩
      have all : ∀ (K : PySem.W.Frag) (H : Hp) (zs : List Int), Reps K H (zs.map V.int) (zs.map D.int) := fun K H zs => by
        induction zs with
        | nil => exact .nil
        | cons z zs ih => exact .cons (.int z) ih
      exact all _ _ _
    · cases he2
end
end Vi

/-! Vi, part 17r: tuple(reversed(a list)). -/
namespace Vi
open PySem PySem.Spec PyProof.Rows
open L2
variable [Wx]

theorem reps_rev {K : PySem.W.Frag} {H : Hp} {vs : List V} {ds : List D} (h : Reps K H vs ds) : Reps K H vs.reverse ds.reverse := by
  induction vs generalizing ds with
  | nil => cases h; exact .nil
  | cons v vs ih =>
    cases h with
    | cons r t =>
      rw [List.reverse_cons, List.reverse_cons]
      exact (ih t).append (.cons r .nil)
section
variable {X : Cx} {P : Tb} {G : List D} {pos : Pos}
theorem peTrev {p p2 q : Pos} {e : Expr} {x : Ex} (hc : X.calm = true) (hg : Gl X "tuple") (hm : X.mg "tuple" = none) (hg2 : Gl X "reversed") (hm2 : X.mg "reversed" = none) (he : PE X e (tE X.K P G x)) (hx : isB x = false) (hs : noStar e = true) :
    PE X (.Call (.Name "tuple" p) [.Call (.Name "reversed" p2) [e] [] q] [] pos) (tE X.K P G (.trev x)) := by
  refine peImp (RT.pe_tupRev hc hg hm hg2 hm2 he (star1 hs) rfl) fun σ H Q h => ?_
  obtain ⟨en, φ, ok, d, en', hev, qq⟩ := h
  unfold ev at hev
  obtain ⟨⟨d1, e1⟩, f1, h1⟩ := Res.bind_ok hev
  cases d1 <;> try cases h1
  rename_i ds
  refine ⟨en, φ, ok, _, e1, f1, fun v H1 ok1 ev1 v1 => ?_⟩
  obtain ⟨a, xs, rfl, ha, r⟩ := rep_fzL (val_rep hx v1)
  refine ⟨a, xs, rfl, ha.sq, fun p hp => ?_⟩
  have sm : Same H1 (upd H1 p (.tup xs.reverse)) := same_upd hp
  exact qq _ _ (ok1.mono sm) (ev1.trans' (.of sm)) (rep_newT hp (reps_rev r))
end
end Vi

/-! Vi, part 17l: a dict of one's own, read all over. -/
namespace Vi
open PySem PySem.Spec PyProof.Rows
open L2
variable [Wx]
theorem ints_reps {K : PySem.W.Frag} {H H' : Hp} : ∀ (ds : List D) (vs : List V) (ns : List Int), intsD ds = .ok ns → Reps K H vs ds → Reps K H' vs ds := by
  intro ds
  induction ds with
  | nil => intro vs ns _ r; cases r; exact .nil
  | cons d ds ih =>
    intro vs ns h r
    unfold intsD at h
    obtain ⟨i, h1, h2⟩ := Res.bind_ok h
    obtain ⟨is, h3, _⟩ := Res.bind_ok h2
    cases r with
    | cons r t =>
      cases r with
      | int i => exact .cons (.int i) (ih _ _ h3 t)
      | _ => cases h1
section
variable {X : Cx} {P : Tb} {G : List D}
theorem getS_mask (en : En) (j : Nat) : getS (maskE en) j = maskS (getS en j) := by
  unfold getS maskE
  rw [List.getD_eq_getElem?_getD, List.getD_eq_getElem?_getD, List.getElem?_map]
  cases en[j]? <;> rfl
theorem lk_core {x : Ex} {i : Nat} {σ : L2.St} {H : Hp} {Q : VK} (h : tO X.K P G (.lk i x) σ H Q) : ∃ d u, H d = some u ∧ Mut (some u) ∧ ∀ od, tO X.K P G x σ (upd H d (.frz od u)) fun v H' => H' d = some (.frz od u) ∧ Q v (upd H' d u) := by
  obtain ⟨en, φ, ok, d, en', he, q⟩ := h
  unfold ev at he
  split at he
  · rename_i ks vs g1
    obtain ⟨⟨r, e1⟩, f1, he1⟩ := Res.bind_ok he
    dsimp only at he1
    split at he1
    · rename_i xs
      obtain ⟨ns, f2, he2⟩ := Res.bind_ok he1
      cases he2
      obtain ⟨a, kvs, s1, s2, hk, rr, s3⟩ := ok.od g1
      refine ⟨a, .dK kvs, s2, trivial, fun od => ?_⟩
      have fz : FzS H (upd H a (.frz od (.dK kvs))) := fzS_upd fun u e f => by rw [s2] at e; cases e; exact f
      refine ⟨(maskE en).set i (.fz (.dic ks vs)), fun _ => [], ⟨by simpa [maskE] using ok.len, fun j => ?_, fun _ _ _ z => (nomatch z), tabs_upd ok.tb s2 (fun z => z)⟩, _, _, f1, fun v H1 ok1 ev1 v1 => ?_⟩
      · rw [getS_set]
        split
        · rename_i z
          rw [← z.1]
          exact ⟨⟨_, s1, .dic upd_same hk (rr.mono fz)⟩, rfl⟩
        · rw [getS_mask]
          have q := ok.slot j
          cases e : getS en j with
          | fz d =>
            rw [e] at q
            obtain ⟨⟨v, z1, r⟩, z2⟩ := q
            exact ⟨⟨v, z1, r.mono fz⟩, rfl⟩
          | _ => exact rfl
      · have no : ∀ b, ¬ Own (fun _ => []) b := fun b ⟨_, z⟩ => nomatch z
        have ka : H1 a = some (.frz od (.dK kvs)) := ev1.keep a _ (no a) (fun _ z => nomatch z) upd_same
        refine ⟨ka, ?_⟩
        have sm : ∀ b o, nT o → H b = some o → upd H1 a (.dK kvs) b = some o := fun b o k e => by
          by_cases z : b = a
          · subst z
            rw [s2] at e
            cases e
            exact upd_same
          · rw [upd_ne z]
            exact ev1.keep b o (no b) k ((upd_ne z).trans e)
        have tb2 : LamX.Tabs Wx.tabs (upd H1 a (.dK kvs)) := tabs_upd ok1.tb ka (fun z => z)
        have fz2 : FzS H (upd H1 a (.dK kvs)) := fun b o e f => sm b o (fz_nT f) e
        obtain ⟨p, ys, rfl, p1, p2, p3⟩ := v1
        have pa : p ≠ a := fun z => p1 (.frz od (.dK kvs)) (fun _ z => nomatch z) (by rw [z]; exact upd_same)
        have evS : Evo H (Own φ) (upd H1 a (.dK kvs)) := ⟨fun b o _ k e => sm b o k e, fz2, fun _ => tb2⟩
        exact q _ _ ⟨ok.len, fun j => slotOk_mono (ok.slot j) fz2 fun b _ u i e => sm b u (ow_nT i) e, ok.dis, tb2⟩ evS ⟨p, ys, rfl, fun o k e => p1 o k ((upd_ne pa).trans e), (upd_ne pa).trans p2, ints_reps _ _ _ f2 p3⟩
    · cases he1
  · cases he
theorem peLk {e : Expr} {x : Ex} {i : Nat} (h : PE X e (tO X.K P G x)) : PE X e (tO X.K P G (.lk i x)) := peImp (pe_lock h) fun _ _ _ hq => lk_core hq
theorem psLk {st : Stmt} {x : Ex} {i j : Nat} (h : PS X st (tAsg (tO X.K P G x) (gName j))) : PS X st (tAsg (tO X.K P G (.lk i x)) (gName j)) := psImp (ps_lock h) fun _ _ _ hq => lk_core hq
end
end Vi

/-! Vi, part 18: sorted. -/
namespace Vi
open PySem PySem.Spec PyProof.Rows
open L2
theorem toPs_length : ∀ {ds : List D} {ps : List PyData}, toPs ds = some ps → ps.length = ds.length
  | [], _, e => by cases e; rfl
  | d :: ds, ps, e => by
    unfold toPs at e
    cases e1 : toP d with
    | none => rw [e1] at e; cases e
    | some q =>
      cases e2 : toPs ds with
      | none => rw [e1, e2] at e; cases e
      | some qs =>
        rw [e1, e2] at e
        cases e
        rw [List.length_cons, List.length_cons, toPs_length e2]
variable [Wx]

/-! the order of data -/
mutual
theorem ltP_data : ∀ (x y : PyData), W.alike x y = true → x ≠ .none → ltP x y = W.dataLt x y
  | .int i, .int j, _, _ => by rw [W.dataLt_int]; simp only [ltP]
  | .bool a, .bool b, _, _ => by rw [W.dataLt_bool]; simp only [ltP]; cases a <;> cases b <;> rfl
  | .str x, .str y, _, _ => by rw [W.dataLt_str]; simp only [ltP]
  | .tuple xs, .tuple ys, h, _ => by rw [W.dataLt_tuple]; simp only [ltP]; exact ltPs_data xs ys (by simpa [W.alike] using h)
  | .list xs, .list ys, h, _ => by rw [W.dataLt_list]; simp only [ltP]; exact ltPs_data xs ys (by simpa [W.alike] using h)
  | .none, _, _, h => absurd rfl h
  | .int _, .none, h, _ => by simp [W.alike] at h
  | .int _, .bool _, h, _ => by simp [W.alike] at h
  | .int _, .str _, h, _ => by simp [W.alike] at h
  | .int _, .tuple _, h, _ => by simp [W.alike] at h
  | .int _, .list _, h, _ => by simp [W.alike] at h
  | .int _, .dict _, h, _ => by simp [W.alike] at h
  | .bool _, .none, h, _ => by simp [W.alike] at h
  | .bool _, .int _, h, _ => by simp [W.alike] at h
  | .bool _, .str _, h, _ => by simp [W.alike] at h
  | .bool _, .tuple _, h, _ => by simp [W.alike] at h
  | .bool _, .list _, h, _ => by simp [W.alike] at h
  | .bool _, .dict _, h, _ => by simp [W.alike] at h
  | .str _, .none, h, _ => by simp [W.alike] at h
  | .str _, .int _, h, _ => by simp [W.alike] at h
  | .str _, .bool _, h, _ => by simp [W.alike] at h
  | .str _, .tuple _, h, _ => by simp [W.alike] at h
  | .str _, .list _, h, _ => by simp [W.alike] at h
  | .str _, .dict _, h, _ => by simp [W.alike] at h
  | .tuple _, .none, h, _ => by simp [W.alike] at h
  | .tuple _, .int _, h, _ => by simp [W.alike] at h
  | .tuple _, .bool _, h, _ => by simp [W.alike] at h
  | .tuple _, .str _, h, _ => by simp [W.alike] at h
  | .tuple _, .list _, h, _ => by simp [W.alike] at h
  | .tuple _, .dict _, h, _ => by simp [W.alike] at h
  | .list _, .none, h, _ => by simp [W.alike] at h
  | .list _, .int _, h, _ => by simp [W.alike] at h
  | .list _, .bool _, h, _ => by simp [W.alike] at h
  | .list _, .str _, h, _ => by simp [W.alike] at h
  | .list _, .tuple _, h, _ => by simp [W.alike] at h
  | .list _, .dict _, h, _ => by simp [W.alike] at h
  | .dict _, _, h, _ => by simp [W.alike] at h
theorem ltPs_data : ∀ (xs ys : List PyData), W.alikeAll xs ys = true → ltPs xs ys = PyProof.Rows.lexLt PyProof.Rows.itemOrd (W.keyToksAll xs) (W.keyToksAll ys)
  | [], [], _ => by simp only [ltPs, W.keyToksAll]; rfl
  | [], y :: ys, _ => by simp only [ltPs, W.keyToksAll]; rfl
  | x :: xs, [], _ => by simp only [ltPs, W.keyToksAll]; rfl
  | x :: xs, y :: ys, h => by
    obtain ⟨h1, h2⟩ := W.alike_all_cons h
    simp only [ltPs]
    cases e : PyData.eqv x y with
    | true => rw [if_pos rfl, W.dataLt_all_yes h1 e]; exact ltPs_data xs ys h2
    | false => rw [if_neg (by decide), W.dataLt_all_no h1 e]; exact ltP_data x y h1 (W.ne_none_of h1 e)
end
mutual
theorem same_alike : ∀ (p a b : PyData), sameP p a = true → sameP p b = true → W.alike a b = true
  | .none, a, b, h1, h2 => by
    cases a <;> first | (simp [sameP] at h1; done) | (cases b <;> first | (simp [sameP] at h2; done) | simp [W.alike])
  | .int _, a, b, h1, h2 => by
    cases a <;> first | (simp [sameP] at h1; done) | (cases b <;> first | (simp [sameP] at h2; done) | simp [W.alike])
  | .bool _, a, b, h1, h2 => by
    cases a <;> first | (simp [sameP] at h1; done) | (cases b <;> first | (simp [sameP] at h2; done) | simp [W.alike])
  | .str _, a, b, h1, h2 => by
    cases a <;> first | (simp [sameP] at h1; done) | (cases b <;> first | (simp [sameP] at h2; done) | simp [W.alike])
  | .dict _, a, b, h1, h2 => by simp [sameP] at h1
  | .tuple xs, a, b, h1, h2 => by
    cases a <;> first | (simp [sameP] at h1; done) | (cases b <;> first | (simp [sameP] at h2; done) | (simp only [W.alike]; exact sames_alike xs _ _ (by simpa [sameP] using h1) (by simpa [sameP] using h2)))
  | .list xs, a, b, h1, h2 => by
    cases a <;> first | (simp [sameP] at h1; done) | (cases b <;> first | (simp [sameP] at h2; done) | (simp only [W.alike]; exact sames_alike xs _ _ (by simpa [sameP] using h1) (by simpa [sameP] using h2)))
theorem sames_alike : ∀ (ps as bs : List PyData), samePs ps as = true → samePs ps bs = true → W.alikeAll as bs = true
  | [], as, bs, h1, h2 => by
    cases as <;> first | (simp [samePs] at h1; done) | (cases bs <;> first | (simp [samePs] at h2; done) | simp [W.alikeAll])
  | p :: ps, as, bs, h1, h2 => by
    cases as <;> first | (simp [samePs] at h1; done) | skip
    cases bs <;> first | (simp [samePs] at h2; done) | skip
    simp only [samePs, Bool.and_eq_true] at h1 h2
    simp only [W.alikeAll, Bool.and_eq_true]
    exact ⟨same_alike p _ _ h1.1 h2.1, sames_alike ps _ _ h1.2 h2.2⟩
end
theorem allLike_ok {ps : List PyData} (h : allLike ps = true) : W.AllAlike ps := by
  intro a ha b hb
  cases ps with
  | nil => cases ha
  | cons p ps =>
    simp only [allLike, Bool.or_eq_true, List.all_eq_true] at h
    rcases h with h | h
    · exact same_alike p a b (h a ha) (h b hb)
    · exact h a ha b hb

/-! sortK is THE sorted list -/
section
variable {α : Type} {le : α → α → Bool}
theorem putK_perm (x : α) : ∀ l : List α, (putK le x l).Perm (x :: l)
  | [] => .refl _
  | y :: ys => by
    unfold putK
    split
    · exact .refl _
    · exact ((putK_perm x ys).cons y).trans (.swap _ _ _)
theorem sortK_perm : ∀ l : List α, (sortK le l).Perm l
  | [] => .refl _
  | x :: xs => (putK_perm x (sortK le xs)).trans ((sortK_perm xs).cons x)
theorem putK_sorted (h : W.TotalLe le) (x : α) : ∀ l : List α, l.Pairwise (fun a b => le a b = true) → (putK le x l).Pairwise (fun a b => le a b = true)
  | [], _ => List.pairwise_singleton _ _
  | y :: ys, p => by
    obtain ⟨p1, p2⟩ := List.pairwise_cons.mp p
    unfold putK
    split
    · rename_i e
      refine List.pairwise_cons.mpr ⟨fun z hz => ?_, p⟩
      rcases List.mem_cons.mp hz with rfl | hz
      · exact e
      · exact h.trans _ _ _ e (p1 z hz)
    · rename_i e
      refine List.pairwise_cons.mpr ⟨fun z hz => ?_, putK_sorted h x ys p2⟩
      rcases List.mem_cons.mp ((putK_perm x ys).mem_iff.mp hz) with rfl | hz
      · exact (h.total z y).resolve_left e
      · exact p1 z hz
theorem sortK_sorted (h : W.TotalLe le) : ∀ l : List α, (sortK le l).Pairwise (fun a b => le a b = true)
  | [] => List.Pairwise.nil
  | x :: xs => putK_sorted h x _ (sortK_sorted h xs)
theorem putK_stable (h : W.TotalLe le) (x c : α) : ∀ l : List α, l.Pairwise (fun a b => le a b = true) → (putK le x l).filter (W.sameRank le c) = (x :: l).filter (W.sameRank le c)
  | [], _ => rfl
  | y :: ys, p => by
    obtain ⟨p1, p2⟩ := List.pairwise_cons.mp p
    unfold putK
    split
    · rfl
    · rename_i e
      have ih := putK_stable h x c ys p2
      by_cases hy : W.sameRank le c y = true
      · have hx : ¬ W.sameRank le c x = true := fun hx => by
          unfold W.sameRank at hx hy
          rw [Bool.and_eq_true] at hx hy
          exact e (h.trans _ c _ hx.2 hy.1)
        rw [List.filter_cons_of_pos hy, ih, List.filter_cons_of_neg hx, List.filter_cons_of_neg hx, List.filter_cons_of_pos hy]
      · rw [List.filter_cons_of_neg hy, ih]
        by_cases hx : W.sameRank le c x = true
        · rw [List.filter_cons_of_pos hx, List.filter_cons_of_pos hx, List.filter_cons_of_neg hy]
        · rw [List.filter_cons_of_neg hx, List.filter_cons_of_neg hx, List.filter_cons_of_neg hy]
theorem sortK_stable (h : W.TotalLe le) (c : α) : ∀ l : List α, (sortK le l).filter (W.sameRank le c) = l.filter (W.sameRank le c)
  | [] => rfl
  | x :: xs => by
    show (putK le x (sortK le xs)).filter _ = _
    rw [putK_stable h x c _ (sortK_sorted h xs)]
    by_cases hx : W.sameRank le c x = true
    · rw [List.filter_cons_of_pos hx, List.filter_cons_of_pos hx, sortK_stable h c xs]
    · rw [List.filter_cons_of_neg hx, List.filter_cons_of_neg hx, sortK_stable h c xs]
theorem sortK_eq (h : W.TotalLe le) (l : List α) : sortK le l = l.mergeSort le := W.sort_unique h (sortK_sorted h l) fun c => sortK_stable h c l
theorem putK_congr {r : α → α → Bool} {x : α} : ∀ {l : List α}, (∀ y ∈ l, r x y = le x y) → putK r x l = putK le x l
  | [], _ => rfl
  | y :: ys, h => by
    unfold putK
    rw [h y List.mem_cons_self, putK_congr fun z hz => h z (List.mem_cons_of_mem _ hz)]
theorem sortK_congr {r : α → α → Bool} : ∀ {l : List α}, (∀ x ∈ l, ∀ y ∈ l, r x y = le x y) → sortK r l = sortK le l
  | [], _ => rfl
  | x :: xs, h => by
    show putK r x (sortK r xs) = putK le x (sortK le xs)
    rw [sortK_congr fun a ha b hb => h a (List.mem_cons_of_mem _ ha) b (List.mem_cons_of_mem _ hb)]
    exact putK_congr fun y hy => h x List.mem_cons_self y (List.mem_cons_of_mem _ ((sortK_perm xs).mem_iff.mp hy))
end

/-! the call -/
def RD (K : PySem.W.Frag) (H : Hp) (u : Value) (b : PyData × D) : Prop := ∃ v, RelV v u ∧ Rep K H v b.2
theorem each_vals {K : PySem.W.Frag} {H : Hp} : ∀ {us : List Value} {bs : List (PyData × D)}, W.EachIs (RD K H) us bs → ∃ vs, Vals vs us ∧ Reps K H vs (bs.map (·.2))
  | _, _, .nil => ⟨[], .nil, .nil⟩
  | _, _, .cons ⟨v, r, d⟩ t => by
    obtain ⟨vs, r2, d2⟩ := each_vals t
    exact ⟨v :: vs, .cons r r2, .cons d d2⟩
theorem vals_each {K : PySem.W.Frag} {H : Hp} : ∀ {vs : List V} {us : List Value} {ds : List D} {ps : List PyData}, Vals vs us → Reps K H vs ds → toPs ds = some ps → W.EachIs (RD K H) us (ps.zip ds)
  | [], us, ds, ps, r, d, e => by
    cases r; cases d; cases e
    exact .nil
  | v :: vs, us, ds, ps, r, d, e => by
    cases r with
    | cons r1 r2 =>
      cases d with
      | cons d1 d2 =>
        rename_i d0 ds0
        unfold toPs at e
        cases e1 : toP d0 with
        | none => rw [e1] at e; cases e
        | some q =>
          cases e2 : toPs ds0 with
          | none => rw [e1, e2] at e; cases e
          | some qs =>
            rw [e1, e2] at e
            cases e
            exact .cons ⟨v, r1, d1⟩ (vals_each r2 d2 e2)
theorem reads_each {h : Heap} : ∀ {us : List Value} {ps : List PyData} {as : List Addr}, ReadsAll h us ps as → W.EachIs (fun v d => ∃ as, Reads h v d as) us ps
  | _, _, _, .nil => .nil
  | _, _, _, .cons r t => .cons ⟨_, r⟩ (reads_each t)
theorem each_fst {α β γ : Type} {R : α → β → Prop} (f : α → β → Prop) : ∀ {us : List α} {ps : List β} {ds : List γ}, ds.length = ps.length → W.EachIs R us ps → W.EachIs (fun v (b : β × γ) => R v b.1) us (ps.zip ds)
  | _, _, [], hl, .nil => .nil
  | _, _, _ :: _, hl, .nil => by simp at hl
  | _, _, [], hl, .cons _ _ => by simp at hl
  | _, _, d :: ds, hl, .cons a t => .cons a (each_fst f (by simpa using hl) t)
theorem isT1_ok {p : PyData} (h : isT1 p = true) : ∃ x r, p = .tuple (x :: r) := by
  cases p <;> try (simp [isT1] at h; done)
  rename_i xs
  cases xs with
  | nil => simp [isT1] at h
  | cons x r => exact ⟨x, r, rfl⟩
theorem isAt_ok {p : PyData} (h : isAt p = true) : p ≠ .none ∧ ∀ xs, p ≠ .tuple xs := by
  cases p <;> first | (simp [isAt] at h; done) | exact ⟨by simp, by simp⟩
theorem zip_mem_fst {α β : Type} {as : List α} {bs : List β} {p : α × β} (h : p ∈ as.zip bs) : p.1 ∈ as := (List.of_mem_zip (a := p.1) (b := p.2) h).1

section
variable {prog : Program} {w : World} {A : Around} {E : Value → Shared → Prop} {s : Shared}
/-- what a tuple holds, put into a new list -/
theorem collT {a : Addr} {us : List Value} {ob : Obj} {ep : Nat} {R : List Value → Shared → Prop} (e1 : s.heap.get? a = some ob) (e2 : ob.cls = .type "tuple") (e3 : ob.data = .seq us.toArray ep) (z : us.length ≤ sizeLine)
    (q : R us { s with heap := (s.heap.push (PyProof.Rows.seqObj "list" #[] 0)).update s.heap.objs.size (Obj.mapSeq fun m => m ++ us.toArray) }) : wpAny (model prog w) A (collect (.ref a)) R E s := by
  unfold collect
  refine wpAny_bind (wpAny_runValue (codeAny_builtin PyProof.Rows.entry_proto_collect' ?_))
  refine wpAny_bind (wpAny_newList (wpAny_pure ⟨Code.quiet_builtin _ (by decide +kernel), codeAny_builtin PyProof.Rows.entry_list_iadd' ?_⟩))
  show wpAny _ _ (Builtin.List.listExtendWith (.ref s.heap.objs.size) (.ref a) (.ref s.heap.objs.size)) _ _ { s with heap := s.heap.push (PyProof.Rows.seqObj "list" #[] 0) }
  unfold Builtin.List.listExtendWith
  have e4 : (s.heap.push (PyProof.Rows.seqObj "list" #[] 0)).get? a = some ob := Heap.get?_push_of_some _ e1
  have e5 : (s.heap.push (PyProof.Rows.seqObj "list" #[] 0)).get? s.heap.objs.size = some (PyProof.Rows.seqObj "list" #[] 0) := Heap.get?_push_size _ rfl
  refine wpAny_bind (wpAny_typeOf (T := "tuple") ⟨ob, e4, e2⟩ ?_)
  have t2 : (Value.type "tuple" == Value.type "tuple") = true := by rfl
  rw [if_pos (by rw [t2]; simp)]
  refine wpAny_bind (listItems_at e4 e3 (wpAny_bind (listItems_at (xs := #[]) (n := 0) e5 rfl ?_)))
  rw [if_neg (by simp)]
  refine wpAny_bind (listUpdate_at (xs := #[]) (n := 0) e5 rfl (wpAny_pure ?_) (Nat.zero_le _) (by rw [Array.size_append]; simp; omega))
  refine wpAny_bind (wpAny_load (get?_update_seq e5 _) ?_)
  show wpAny _ _ (pure ((#[] : Array Value) ++ us.toArray).toList) R E _
  rw [show ((#[] : Array Value) ++ us.toArray).toList = us by simp]
  exact wpAny_pure q
/-- sorted of a tuple: list.sort on a new list of what it holds -/
theorem sortedT {κ : PyProof.Rows.KeyKind} {a : Addr} {us : List Value} {ob : Obj} {ep : Nat} {R : Value → Shared → Prop} (e1 : s.heap.get? a = some ob) (e2 : ob.cls = .type "tuple") (e3 : ob.data = .seq us.toArray ep)
    (S : W.SortsAt prog w A.in1.in1 { s with heap := W.sortingHeap (W.copyHeap s.heap us) (s.heap.objs.size + 1) us } κ us) (z : us.length ≤ sizeLine) (q : R (.ref (s.heap.objs.size + 1)) { s with heap := PyProof.Rows.sortedAll s.heap us (W.sortVals κ false us us).toArray }) :
    wpAny (model prog w) A (call (.builtin "sorted") [.ref a] []) R E s := by
  refine PyProof.Rows.call_function_entry_kw PyProof.Rows.kind_sorted PyProof.Rows.plain_sorted PyProof.Rows.entry_sorted (PyProof.Rows.args_sorted1 _) ?_
  unfold Builtin.«sorted»
  refine wpAny_bind (m := checkCount "sorted" 1 1 _) (wpAny_pure (wpAny_bind (collT e1 e2 e3 z (wpAny_bind (wpAny_newList ?_ z)))))
  have y : ((s.heap.push (PyProof.Rows.seqObj "list" #[] 0)).update s.heap.objs.size (Obj.mapSeq fun m => m ++ us.toArray)).objs.size = s.heap.objs.size + 1 := by rw [Heap.size_update, size_push']
  rw [y]
  refine wpAny_bind (wpAny_holding (wpAny_call_entry_kw PyProof.Rows.slot_list_sort ⟨_, W.copyHeap_at s.heap us, rfl⟩ PyProof.Rows.entry_list_sort ?_ (PyProof.Rows.args_list_sort _)))
  show wpAny (model prog w) A.in1.in1 (Builtin.«list.sort» ⟨[.ref (s.heap.objs.size + 1)], []⟩) _ _ { s with heap := W.copyHeap s.heap us }
  exact W.list_sort_vals (s := { s with heap := W.copyHeap s.heap us }) (W.copyHeap_at s.heap us) S z ⟨_, rfl, wpAny_pure ⟨_, rfl, q⟩⟩
end
variable {X : Cx}
theorem sort_core (hu : X.A.units + 80 < cLine) {pins : List (Addr × Obj)} {s : Shared} {σ : L2.St} {H : Hp} {Q : VK} {ds es : List D} {xs : List V} {its : List Value} (I : L2.Inv X pins σ H s) (hs : sortD ds = some es) (ra : Reps X.K H xs ds) (rv : Vals xs its) (hz : xs.length ≤ sizeLine)
    (q : ∀ v H', ValO X.K H H' v (.lst es) → Same H H' → Q v H') : ∃ κ, W.SortsAt X.prog X.w X.A.in1.in1 { s with heap := W.sortingHeap (W.copyHeap s.heap its) (s.heap.objs.size + 1) its } κ its ∧
      EP X pins σ Q (.ref (s.heap.objs.size + 1)) { s with heap := sortedAll s.heap its (W.sortVals κ false its its).toArray } := by
  unfold sortD at hs
  cases hp : toPs ds with
  | none => rw [hp] at hs; cases hs
  | some ps =>
    rw [hp] at hs
    dsimp only at hs
    split at hs
    · rename_i hk
      cases hs
      unfold okSort at hk
      simp only [Bool.and_eq_true, Bool.or_eq_true, List.all_eq_true] at hk
      obtain ⟨⟨k1, k2⟩, k3⟩ := hk
      have hlen : ps.length = ds.length := toPs_length hp
      have hlx : xs.length = ds.length := ra.length
      have hvl : xs.length = its.length := rv.length
      have hz' : its.length ≤ sizeLine := by rw [← hvl]; exact hz
      obtain ⟨as, hr⟩ := Dp.readsAll I ps xs its (ra.dp hp) rv
      have hsrt : W.Sortable ps := by
        rcases k2 with k | k
        · exact .inl fun d hd => isT1_ok (k d hd)
        · exact .inr fun d hd => isAt_ok (k d hd)
      have fin : ∀ out : List Value, W.EachIs (RD X.K H) out (sortK (fun a b : PyData × D => !ltP b.1 a.1) (ps.zip ds)) → EP X pins σ Q (.ref (s.heap.objs.size + 1)) { s with heap := sortedAll s.heap its out.toArray } := by
        intro out ho
        obtain ⟨ys, ry, dy⟩ := each_vals ho
        obtain ⟨ep, he'⟩ := PyProof.Rows.sortedAll_at s.heap its out.toArray
        have hly : ys.length ≤ sizeLine := by
          rw [dy.length, List.length_map, (sortK_perm _).length_eq, List.length_zip, hlen, Nat.min_self, ← hlx]
          exact hz
        have hf : H (s.heap.objs.size + 1) = none := I.hok.fresh (Nat.le_succ _)
        refine ⟨.ref _, upd H (s.heap.objs.size + 1) (.lst ys), I.laid (t' := s.toks) (fun _ _ => PyProof.Rows.sortedAll_old) (Nat.le_succ _) ⟨hly, out, ep, ry, he'⟩, rfl, q _ _ (valO_lst hf dy) (same_upd hf)⟩
      have hal := allLike_ok k1
      have hreads : ReadsAll (W.sortingHeap (W.copyHeap s.heap its) (s.heap.objs.size + 1) its) its ps as := ReadsAll.keeps (fun b o e => W.sorting_copy_old e) hr
      refine ⟨_, W.SortsAt.data (ds := ps) (reads_each hreads) hal hsrt fun d hd => ?_, fin _ ?_⟩
      · have := SeqAt.depth_of_shaped (k3 d hd)
        show X.A.in1.in1.units + d.depth < cLine
        have e : X.A.in1.in1.units = X.A.units + 1 + 1 := rfl
        omega
      · have e1 := vals_each rv ra hp
        have e2 : W.EachIs (fun v (b : PyData × D) => (W.dataKind (W.sortingHeap (W.copyHeap s.heap its) (s.heap.objs.size + 1) its) ps).keyOf v = some (W.keyToks b.1)) its (ps.zip ds) :=
          each_fst (fun _ _ => True) hlen.symm (W.each_keys hal (reads_each hreads))
        have e3 := W.sortVals_each (κ := W.dataKind (W.sortingHeap (W.copyHeap s.heap its) (s.heap.objs.size + 1) its) ps) (rev := false) (fun b : PyData × D => W.keyToks b.1) e1 e2
        have e4 : sortK (fun a b : PyData × D => !ltP b.1 a.1) (ps.zip ds) = (ps.zip ds).mergeSort (W.sortLe (PyProof.Rows.listOrd PyProof.Rows.itemOrd) false fun b : PyData × D => W.keyToks b.1) := by
          rw [← sortK_eq (W.sortLe_total _ _ _)]
          refine sortK_congr fun x hx y hy => ?_
          show (!ltP y.1 x.1) = (!W.dataLt y.1 x.1)
          have ny : y.1 ≠ .none := by
            rcases hsrt with t | t
            · obtain ⟨_, _, e⟩ := t _ (zip_mem_fst hy)
              rw [e]; simp
            · exact (t _ (zip_mem_fst hy)).1
          rw [ltP_data y.1 x.1 (hal _ (zip_mem_fst hy) _ (zip_mem_fst hx)) ny]
        rw [e4]
        exact e3
    · cases hs
theorem cr_sorted (hu : X.A.units + 80 < cLine) : CallR X (.builtin "sorted") (rC X.K .sorted) := by
  intro pins s σ H vs us Q I r h
  obtain ⟨ds, c, hn, hb, q⟩ := h
  obtain ⟨d, rfl⟩ := bfn1 hb (by decide) (by decide)
  obtain ⟨v, rfl, n1⟩ := nws1 hn
  cases d <;> try cases hb
  · rename_i ds
    obtain ⟨a, xs, rfl, ha, ra⟩ := nw_tup n1
    simp only [bfn] at hb
    obtain ⟨es, hs, hb⟩ := Res.bind_ok hb
    cases hb
    obtain ⟨its, rv, ⟨ob, ho, hc, n, hd⟩, hz⟩ := I.tuple ha
    rw [Vals.ref1 r]
    obtain ⟨κ, S, e⟩ := sort_core hu I (ofO_ok hs) ra rv hz q
    exact sortedT ho hc hd S (by rw [← rv.length]; exact hz) e
  · rename_i ds
    obtain ⟨a, xs, rfl, ha, ra⟩ := nw_lst n1
    simp only [bfn] at hb
    obtain ⟨es, hs, hb⟩ := Res.bind_ok hb
    cases hb
    obtain ⟨its, rv, hl, hz⟩ := I.list ha.sq
    rw [Vals.ref1 r]
    obtain ⟨κ, S, e⟩ := sort_core hu I (ofO_ok hs) ra rv hz q
    exact W.sorted_vals hl.isList S (by rw [← rv.length]; exact hz) e
/-! min and max of ints -/
theorem toPs_ints : ∀ {ds : List D} {ns : List Int}, intsD ds = .ok ns → toPs ds = some (ns.map PyData.int)
  | [], ns, e => by cases e; rfl
  | d :: ds, ns, e => by
    obtain ⟨i, e1, e2⟩ := Res.bind_ok (show (asInt d >>= fun i => intsD ds >>= fun r => pure (i :: r)) = .ok ns from e)
    obtain ⟨r, e3, e4⟩ := Res.bind_ok e2
    cases e4
    cases d <;> cases e1
    simp only [toPs, toP, toPs_ints e3, List.map_cons]
theorem alike_ints (ns : List Int) : W.AlikeAll (ns.map PyData.int) := ⟨fun x hx y hy => by
  obtain ⟨_, _, rfl⟩ := List.mem_map.mp hx
  obtain ⟨_, _, rfl⟩ := List.mem_map.mp hy
  rfl, fun x hx => by
  obtain ⟨_, _, rfl⟩ := List.mem_map.mp hx
  simp⟩
theorem depth_ints : ∀ ns : List Int, PyData.depthAll (ns.map PyData.int) = 0
  | [] => rfl
  | n :: ns => by simp only [List.map_cons, PyData.depthAll, PyData.depth, depth_ints ns, Nat.max_self]
theorem foldl_min : ∀ (ns : List Int) (n : Int), ns.foldl min n = ns.foldl (fun m y => if y < m then y else m) n
  | [], n => rfl
  | y :: ns, n => by
    rw [List.foldl_cons, List.foldl_cons, foldl_min ns]
    congr 1
    split <;> omega
theorem foldl_max : ∀ (ns : List Int) (n : Int), ns.foldl max n = ns.foldl (fun m y => if m < y then y else m) n
  | [], n => rfl
  | y :: ns, n => by
    rw [List.foldl_cons, List.foldl_cons, foldl_max ns]
    congr 1
    split <;> omega
theorem reads_int_at {h : Heap} {its : List Value} {ns : List Int} (hi : IntsAre its ns) {i : Nat} {v : Value} (e : its.toArray[i]? = some v) : ∃ n t, v = .int n t := by
  have e : its[i]? = some v := by simpa using e
  obtain ⟨n, t, e', _⟩ := IntsAre.at hi i v e
  exact ⟨n, t, e'⟩
theorem reads_int_eq {h : Heap} {n m : Int} {t : Value → Prop} {k : _} {bs : List Addr} (r : Reads h (.int n k) (.int m) bs) : n = m := by cases r; rfl
theorem depthAll_le : ∀ {ps : List PyData}, (∀ p ∈ ps, p.depth ≤ 64) → PyData.depthAll ps ≤ 64
  | [], _ => Nat.zero_le _
  | p :: ps, h => by
    simp only [PyData.depthAll]
    exact Nat.max_le.mpr ⟨h p List.mem_cons_self, depthAll_le fun q hq => h q (List.mem_cons_of_mem _ hq)⟩
theorem leastAt_eq {p : Nat → PyData} {n : Nat} (h : ∀ i, i ≤ n → ∀ j, j ≤ n → W.alike (p i) (p j) = true) (h0 : ∀ i, i ≤ n → p i ≠ .none) : ∀ k, k ≤ n → leastAt p k = argBest (fun i j => W.dataLt (p i) (p j)) k ∧ leastAt p k ≤ k := by
  intro k
  induction k with
  | zero => exact fun _ => ⟨rfl, Nat.le_refl _⟩
  | succ k ih =>
    intro hk
    obtain ⟨i1, i2⟩ := ih (by omega)
    unfold leastAt argBest
    rw [ltP_data _ _ (h _ hk _ (by omega)) (h0 _ hk), ← i1]
    refine ⟨rfl, ?_⟩
    split <;> omega
theorem mostAt_eq {p : Nat → PyData} {n : Nat} (h : ∀ i, i ≤ n → ∀ j, j ≤ n → W.alike (p i) (p j) = true) (h0 : ∀ i, i ≤ n → p i ≠ .none) : ∀ k, k ≤ n → mostAt p k = argBest (fun i j => W.dataLt (p j) (p i)) k ∧ mostAt p k ≤ k := by
  intro k
  induction k with
  | zero => exact fun _ => ⟨rfl, Nat.le_refl _⟩
  | succ k ih =>
    intro hk
    obtain ⟨i1, i2⟩ := ih (by omega)
    unfold mostAt argBest
    rw [ltP_data _ _ (h _ (by omega) _ hk) (h0 _ (by omega)), ← i1]
    refine ⟨rfl, ?_⟩
    split <;> omega
theorem flat_val {K : PySem.W.Frag} {H H' : Hp} {v : V} {d : D} (hf : flatD d = true) (r : Rep K H' v d) : ValO K H H' v d := by
  cases d <;> first | exact r | cases hf
/-- the least (the greatest) of a row that stands -/
theorem row_pick {pins : List (Addr × Obj)} {s : Shared} {σ : L2.St} {H : Hp} {Q : VK} {ds : List D} {c : D} {mx : Bool} {xs : List V} {its : List Value} (I : L2.Inv X pins σ H s) (hm : rowAt mx ds = some c) (ra : Reps X.K H xs ds) (rv : Vals xs its)
    (q : ∀ v H', ValO X.K H H' v c → Same H H' → Q v H') : ∃ ps as, ReadsAll s.heap its ps as ∧ W.AlikeAll ps ∧ PyData.depthAll ps ≤ 64 ∧ 0 < its.length ∧
      ∀ v h' tk, its.toArray[argBest (fun i j => if mx = true then W.dataLt (ps.getD j .none) (ps.getD i .none) else W.dataLt (ps.getD i .none) (ps.getD j .none)) (its.length - 1)]? = some v → (∀ b o, s.heap.get? b = some o → h'.get? b = some o) → EP X pins σ Q v { s with heap := h', toks := tk } := by
  unfold rowAt at hm
  split at hm
  rotate_left
  · cases hm
  rename_i ps hps
  split at hm
  rotate_left
  · cases hm
  rename_i hok
  obtain ⟨hk, hflat⟩ := hok
  unfold okSort at hk
  simp only [Bool.and_eq_true, Bool.or_eq_true, List.all_eq_true] at hk
  obtain ⟨⟨k1, k2⟩, k3⟩ := hk
  have hsrt : ∀ p ∈ ps, p ≠ .none := fun p hp => by
    rcases k2 with k | k
    · obtain ⟨_, _, e⟩ := isT1_ok (k p hp)
      rw [e]; simp
    · exact (isAt_ok (k p hp)).1
  have hlen : ps.length = ds.length := toPs_length hps
  have hlx : xs.length = ds.length := ra.length
  have hvl : xs.length = its.length := rv.length
  have hpos : 0 < ds.length := by
    have := (List.getElem?_eq_some_iff.mp hm).1
    omega
  obtain ⟨as, hr⟩ := Dp.readsAll I ps xs its (ra.dp hps) rv
  have hal := allLike_ok k1
  have hg : ∀ i, i ≤ ds.length - 1 → ps.getD i .none ∈ ps := fun i hi => by
    rw [List.getD_eq_getElem?_getD, List.getElem?_eq_getElem (by omega)]
    exact List.getElem_mem _
  refine ⟨ps, as, hr, ⟨fun x hx y hy => hal x hx y hy, hsrt⟩, depthAll_le fun p hp => SeqAt.depth_of_shaped (k3 p hp), by omega, fun v h' tk hv hk => ?_⟩
  have e1 := leastAt_eq (p := fun i => ps.getD i .none) (n := ds.length - 1) (fun i hi j hj => hal _ (hg i hi) _ (hg j hj)) (fun i hi => hsrt _ (hg i hi)) _ (Nat.le_refl _)
  have e2 := mostAt_eq (p := fun i => ps.getD i .none) (n := ds.length - 1) (fun i hi j hj => hal _ (hg i hi) _ (hg j hj)) (fun i hi => hsrt _ (hg i hi)) _ (Nat.le_refl _)
  have hi : ∃ i : Nat, ds[i]? = some c ∧ its[i]? = some v := by
    refine ⟨_, hm, ?_⟩
    rw [List.getElem?_toArray, ← hvl, hlx] at hv
    cases mx with
    | false =>
      simp only [Bool.false_eq_true, if_false] at hv ⊢
      rw [e1.1]
      exact hv
    | true =>
      simp only [if_true] at hv ⊢
      rw [e2.1]
      exact hv
  obtain ⟨i, hi1, hi2⟩ := hi
  obtain ⟨x, hx, rx⟩ := ra.get hi1
  obtain ⟨u, hu, hvx⟩ := rv.get hx
  rw [hi2] at hu
  cases hu
  have hcf : flatD c = true := List.all_eq_true.mp hflat c (List.mem_of_getElem? hi1)
  exact ⟨x, H, I.kept hk, hvx, q x H (flat_val hcf rx) (.refl H)⟩
theorem cr_min1 (hc : X.calm = true) (hu : X.A.units + 80 < cLine) : CallR X (bfVal .min1) (rC X.K .min1) := by
  intro pins s σ H vs us Q I r h
  obtain ⟨ds, c, hn, hb, q⟩ := h
  obtain ⟨d, rfl⟩ := bfn1 hb (by decide) (by decide)
  obtain ⟨v, rfl, n1⟩ := nws1 hn
  cases d <;> try cases hb
  · rename_i es
    have hb' : minR false es = .ok c := hb
    unfold minR at hb'
    split at hb'
    rotate_left
    · obtain ⟨a, xs, rfl, ha, ra⟩ := nw_tup n1
      obtain ⟨its, rv, ht, hz⟩ := I.tuple ha
      obtain ⟨ps, as, hr, hal, hdp, hpos, fin⟩ := row_pick I (ofO_ok hb') ra rv q
      rw [Vals.ref1 r]
      have hsz : its.toArray.size = its.length := by simp
      refine call_min_walkH (W.iter_tupleW (A := X.A.in1) (I.ok.hd hc) ht fun s₂ e W' st hfp hw hk => ?_)
      refine ⟨_, _, _, _, _, _, _, s.heap, _, rfl, W', st, hfp, by rw [hsz]; exact hpos, hw, hk, W.cmpIn_lt (A := X.A.in1) (vs := its.toArray) (by simpa using hr) hal (by show X.A.units + 1 + _ < cLine; omega), fun v s' hP m => ?_⟩
      obtain ⟨h', tk, rfl, hk'⟩ := W.moved_old e rfl m
      rw [hsz] at hP
      exact fin v h' tk (by simpa using hP) hk'
    rename_i bs e1
    obtain ⟨m, e4, e5⟩ := Res.bind_ok hb'
    simp only [Bool.false_eq_true, if_false, if_true] at e4
    cases e5
    obtain ⟨a, xs, rfl, ha, ra⟩ := nw_tup n1
    obtain ⟨its, rv, ht, hz⟩ := I.tuple ha
    obtain ⟨as, hr⟩ := Dp.readsAll I _ xs its (ra.dp (toPs_ints e1)) rv
    have e3 := reps_ints ra e1
    subst e3
    have e6 := ofO_ok e4
    cases bs with
    | nil => cases e6
    | cons n ns =>
      cases e6
      rw [Vals.ref1 r]
      refine W.min_tuple_data (I.ok.hd hc) ht (by simpa using hr) (alike_ints (n :: ns)) ?_ fun i v h' tk cs hv rd hk => ?_
      · show X.A.units + 1 + PyData.depthAll ((n :: ns).map PyData.int) < cLine
        rw [depth_ints]; omega
      · obtain ⟨n', t', rfl⟩ := reads_int_at (h := h') rv.ints hv
        rw [W.minD_ints, foldl_min] at rd
        have := reads_int_eq (t := fun _ => True) rd
        subst this
        exact ⟨.int _, H, I.kept hk, ⟨_, rfl⟩, ofD q (.int _)⟩
  · rename_i es
    have hb' : minR false es = .ok c := hb
    unfold minR at hb'
    split at hb'
    rotate_left
    · obtain ⟨a, xs, rfl, ha, ra⟩ := nw_lst n1
      obtain ⟨its, rv, ht, hz⟩ := I.list ha.sq
      obtain ⟨ps, as, hr, hal, hdp, hpos, fin⟩ := row_pick I (ofO_ok hb') ra rv q
      rw [Vals.ref1 r]
      have hsz : its.toArray.size = its.length := by simp
      refine call_min_walkH (W.iter_listW (A := X.A.in1) (I.ok.hd hc) ht.isList fun s₂ e W' st hfp hw hk => ?_)
      refine ⟨_, _, _, _, _, _, _, s.heap, _, rfl, W', st, hfp, by rw [hsz]; exact hpos, hw, hk, W.cmpIn_lt (A := X.A.in1) (vs := its.toArray) (by simpa using hr) hal (by show X.A.units + 1 + _ < cLine; omega), fun v s' hP m => ?_⟩
      obtain ⟨h', tk, rfl, hk'⟩ := W.moved_old e rfl m
      rw [hsz] at hP
      exact fin v h' tk (by simpa using hP) hk'
    rename_i bs e1
    obtain ⟨m, e4, e5⟩ := Res.bind_ok hb'
    simp only [Bool.false_eq_true, if_false, if_true] at e4
    cases e5
    obtain ⟨a, xs, rfl, ha, ra⟩ := nw_lst n1
    have e3 := reps_ints ra e1
    subst e3
    have e6 := ofO_ok e4
    refine cr_min hc pins s σ H _ us Q I r ⟨a, bs, rfl, ha.sq, ?_, fun k h1 h2 => ?_⟩
    · cases bs with
      | nil => cases e6
      | cons _ _ => exact Nat.succ_pos _
    · rw [← leastI_spec e6 h1 h2]
      exact ofD q (.int _)
theorem cr_max1 (hc : X.calm = true) (hu : X.A.units + 80 < cLine) : CallR X (bfVal .max1) (rC X.K .max1) := by
  intro pins s σ H vs us Q I r h
  obtain ⟨ds, c, hn, hb, q⟩ := h
  obtain ⟨d, rfl⟩ := bfn1 hb (by decide) (by decide)
  obtain ⟨v, rfl, n1⟩ := nws1 hn
  cases d <;> try cases hb
  · rename_i es
    have hb' : minR true es = .ok c := hb
    unfold minR at hb'
    split at hb'
    rotate_left
    · obtain ⟨a, xs, rfl, ha, ra⟩ := nw_tup n1
      obtain ⟨its, rv, ht, hz⟩ := I.tuple ha
      obtain ⟨ps, as, hr, hal, hdp, hpos, fin⟩ := row_pick I (ofO_ok hb') ra rv q
      rw [Vals.ref1 r]
      have hsz : its.toArray.size = its.length := by simp
      refine call_max_walkH (W.iter_tupleW (A := X.A.in1) (I.ok.hd hc) ht fun s₂ e W' st hfp hw hk => ?_)
      refine ⟨_, _, _, _, _, _, _, s.heap, _, rfl, W', st, hfp, by rw [hsz]; exact hpos, hw, hk, W.cmpIn_gt (A := X.A.in1) (vs := its.toArray) (by simpa using hr) hal (by show X.A.units + 1 + _ < cLine; omega), fun v s' hP m => ?_⟩
      obtain ⟨h', tk, rfl, hk'⟩ := W.moved_old e rfl m
      rw [hsz] at hP
      exact fin v h' tk (by simpa using hP) hk'
    rename_i bs e1
    obtain ⟨m, e4, e5⟩ := Res.bind_ok hb'
    simp only [Bool.false_eq_true, if_false, if_true] at e4
    cases e5
    obtain ⟨a, xs, rfl, ha, ra⟩ := nw_tup n1
    obtain ⟨its, rv, ht, hz⟩ := I.tuple ha
    obtain ⟨as, hr⟩ := Dp.readsAll I _ xs its (ra.dp (toPs_ints e1)) rv
    have e3 := reps_ints ra e1
    subst e3
    have e6 := ofO_ok e4
    cases bs with
    | nil => cases e6
    | cons n ns =>
      cases e6
      rw [Vals.ref1 r]
      refine W.max_tuple_data (I.ok.hd hc) ht (by simpa using hr) (alike_ints (n :: ns)) ?_ fun i v h' tk cs hv rd hk => ?_
      · show X.A.units + 1 + PyData.depthAll ((n :: ns).map PyData.int) < cLine
        rw [depth_ints]; omega
      · obtain ⟨n', t', rfl⟩ := reads_int_at (h := h') rv.ints hv
        rw [W.maxD_ints, foldl_max] at rd
        have := reads_int_eq (t := fun _ => True) rd
        subst this
        exact ⟨.int _, H, I.kept hk, ⟨_, rfl⟩, ofD q (.int _)⟩
  · rename_i es
    have hb' : minR true es = .ok c := hb
    unfold minR at hb'
    split at hb'
    rotate_left
    · obtain ⟨a, xs, rfl, ha, ra⟩ := nw_lst n1
      obtain ⟨its, rv, ht, hz⟩ := I.list ha.sq
      obtain ⟨ps, as, hr, hal, hdp, hpos, fin⟩ := row_pick I (ofO_ok hb') ra rv q
      rw [Vals.ref1 r]
      have hsz : its.toArray.size = its.length := by simp
      refine call_max_walkH (W.iter_listW (A := X.A.in1) (I.ok.hd hc) ht.isList fun s₂ e W' st hfp hw hk => ?_)
      refine ⟨_, _, _, _, _, _, _, s.heap, _, rfl, W', st, hfp, by rw [hsz]; exact hpos, hw, hk, W.cmpIn_gt (A := X.A.in1) (vs := its.toArray) (by simpa using hr) hal (by show X.A.units + 1 + _ < cLine; omega), fun v s' hP m => ?_⟩
      obtain ⟨h', tk, rfl, hk'⟩ := W.moved_old e rfl m
      rw [hsz] at hP
      exact fin v h' tk (by simpa using hP) hk'
    rename_i bs e1
    obtain ⟨m, e4, e5⟩ := Res.bind_ok hb'
    simp only [Bool.false_eq_true, if_false, if_true] at e4
    cases e5
    obtain ⟨a, xs, rfl, ha, ra⟩ := nw_lst n1
    have e3 := reps_ints ra e1
    subst e3
    have e6 := ofO_ok e4
    refine cr_max hc pins s σ H _ us Q I r ⟨a, bs, rfl, ha.sq, ?_, fun k h1 h2 => ?_⟩
    · cases bs with
      | nil => cases e6
      | cons _ _ => exact Nat.succ_pos _
    · rw [← mostI_spec e6 h1 h2]
      exact ofD q (.int _)
end Vi

/-! Vi, part 18b: min and max with default=; a range backwards; extend, insert, remove; a list of either way. -/
namespace Vi
open PySem PySem.Spec PyProof.Rows
open L2
variable [Wx]
section
variable {X : Cx} {P : Tb} {G : List D} {W : WX} {pos p : Pos}
/-! min(xs, default=d) -/
def mdName (mx : Bool) : String := if mx then "max" else "min"
def rMd (K : PySem.W.Frag) (mx : Bool) : List V → List V → Hp → VK → Prop := fun vs zs H Q => ∃ x z d e c, vs = [x] ∧ zs = [z] ∧ Nw K H x d ∧ Rep K H z e ∧ mdefD mx d e = .ok c ∧ ∀ v, Rep K H v c → Q v H
theorem mdef_ok {mx : Bool} {d e c : D} (h : mdefD mx d e = .ok c) : ∃ es ns, (d = .lst es ∨ d = .tup es) ∧ intsD es = .ok ns ∧ ((ns = [] ∧ c = e) ∨ ∃ n r, ns = n :: r ∧ c = .int (if mx then r.foldl (fun m y => if m < y then y else m) n else r.foldl (fun m y => if y < m then y else m) n)) := by
  have key : ∀ es, (do
      let ns ← intsD es
      match (if mx then mostI ns else leastI ns) with
      | some m => (Res.ok (D.int m) : Res D)
      | none => .ok e) = .ok c → ∃ ns, intsD es = .ok ns ∧ ((ns = [] ∧ c = e) ∨ ∃ n r, ns = n :: r ∧ c = .int (if mx then r.foldl (fun m y => if m < y then y else m) n else r.foldl (fun m y => if y < m then y else m) n)) := by
    intro es h
    obtain ⟨ns, h1, h2⟩ := Res.bind_ok h
    refine ⟨ns, h1, ?_⟩
    cases ns with
    | nil => cases mx <;> (cases h2; exact .inl ⟨rfl, rfl⟩)
    | cons n r => cases mx <;> (cases h2; exact .inr ⟨n, r, rfl, rfl⟩)
  unfold mdefD at h
  split at h
  · obtain ⟨ns, a, b⟩ := key _ h
    exact ⟨_, ns, .inl rfl, a, b⟩
  · obtain ⟨ns, a, b⟩ := key _ h
    exact ⟨_, ns, .inr rfl, a, b⟩
  · cases h
theorem cr_mdef (hc : X.calm = true) (hu : X.A.units + 80 < cLine) (mx : Bool) : CallRK X (.builtin (mdName mx)) [Str.ofString "default"] (rMd X.K mx) := by
  intro pins s σ H vs zs us ws Q I r rz h
  obtain ⟨x, z, d, e, c, rfl, rfl, hx, hz, hm, q⟩ := h
  obtain ⟨es, ns, hd, hi, hcase⟩ := mdef_ok hm
  obtain ⟨wz, rfl, rw0⟩ := rz.one
  show wpAny _ _ (call (.builtin (mdName mx)) us [(Str.ofString "default", wz)]) _ _ _
  have fin : ∀ {w : Value} {v : V} {h' : Heap} {tk : Nat}, (∀ b o, s.heap.get? b = some o → h'.get? b = some o) → RelV v w → Rep X.K H v c → EP X pins σ Q w { s with heap := h', toks := tk } := fun hk rv rp => ⟨_, H, I.kept hk, rv, q _ rp⟩
  have dep : ∀ ns : List Int, X.A.units + 1 + PyData.depthAll (ns.map PyData.int) < cLine := fun ns => by rw [depth_ints]; omega
  have tak : ∀ {h' : Heap} {its : List Value} {n : Int} {r : List Int} {i : Nat} {v : Value} {cs : List Addr}, IntsAre its (n :: r) → its.toArray[i]? = some v → Reads h' v (if mx then W.maxD (.int n) (r.map .int) else W.minD (.int n) (r.map .int)) cs → ∃ t, v = .int (if mx then r.foldl (fun m y => if m < y then y else m) n else r.foldl (fun m y => if y < m then y else m) n) t := fun {h' its n r i v cs} hi e rd => by
    obtain ⟨n', t', rfl⟩ := reads_int_at (h := h') hi e
    cases mx with
    | true =>
      rw [if_pos rfl, W.maxD_ints, foldl_max] at rd
      exact ⟨t', by rw [if_pos rfl, reads_int_eq (t := fun _ => True) rd]⟩
    | false =>
      rw [if_neg (by decide), W.minD_ints, foldl_min] at rd
      exact ⟨t', by rw [if_neg (by decide), reads_int_eq (t := fun _ => True) rd]⟩
  rcases hd with rfl | rfl
  · obtain ⟨a, xs, rfl, ha, ra⟩ := nw_lst hx
    obtain ⟨its, rv, hl, hz'⟩ := I.list ha.sq
    obtain ⟨as, hr⟩ := Dp.readsAll I _ xs its (ra.dp (toPs_ints hi)) rv
    have e3 := reps_ints ra hi
    subst e3
    rw [Vals.ref1 r]
    have h0 : ns.map PyData.int = [] → ∀ h' tk, (∀ b o, s.heap.get? b = some o → h'.get? b = some o) → EP X pins σ Q wz { s with heap := h', toks := tk } := fun hn h' tk hk => by
      have : ns = [] := List.map_eq_nil_iff.mp hn
      subst this
      rcases hcase with ⟨_, rfl⟩ | ⟨n, r, e, _⟩
      · exact fin (v := z) hk rw0 hz
      · cases e
    have h1 : ∀ (y : PyData) (ys : List PyData) (i : Nat) v h' tk bs, ns.map PyData.int = y :: ys → its.toArray[i]? = some v → Reads h' v (if mx then W.maxD y ys else W.minD y ys) bs → (∀ b o, s.heap.get? b = some o → h'.get? b = some o) → EP X pins σ Q v { s with heap := h', toks := tk } := fun y ys i v h' tk bs he hv rd hk => by
      cases ns with
      | nil => cases he
      | cons n r =>
        cases he
        rcases hcase with ⟨e, _⟩ | ⟨n', r', e, rfl⟩
        · cases e
        · cases e
          obtain ⟨t, rfl⟩ := tak rv.ints hv rd
          exact fin (v := .int _) hk ⟨_, rfl⟩ (.int _)
    cases mx with
    | true => exact W.max_list_default (I.ok.hd hc) hl.isList hr (alike_ints ns) (dep ns) h0 h1
    | false => exact W.min_list_default (I.ok.hd hc) hl.isList hr (alike_ints ns) (dep ns) h0 h1
  · obtain ⟨a, xs, rfl, ha, ra⟩ := nw_tup hx
    obtain ⟨its, rv, hl, hz'⟩ := I.tuple ha
    obtain ⟨as, hr⟩ := Dp.readsAll I _ xs its (ra.dp (toPs_ints hi)) rv
    have e3 := reps_ints ra hi
    subst e3
    rw [Vals.ref1 r]
    have h0 : ns.map PyData.int = [] → ∀ h' tk, (∀ b o, s.heap.get? b = some o → h'.get? b = some o) → EP X pins σ Q wz { s with heap := h', toks := tk } := fun hn h' tk hk => by
      have : ns = [] := List.map_eq_nil_iff.mp hn
      subst this
      rcases hcase with ⟨_, rfl⟩ | ⟨n, r, e, _⟩
      · exact fin (v := z) hk rw0 hz
      · cases e
    have h1 : ∀ (y : PyData) (ys : List PyData) (i : Nat) v h' tk bs, ns.map PyData.int = y :: ys → its.toArray[i]? = some v → Reads h' v (if mx then W.maxD y ys else W.minD y ys) bs → (∀ b o, s.heap.get? b = some o → h'.get? b = some o) → EP X pins σ Q v { s with heap := h', toks := tk } := fun y ys i v h' tk bs he hv rd hk => by
      cases ns with
      | nil => cases he
      | cons n r =>
        cases he
        rcases hcase with ⟨e, _⟩ | ⟨n', r', e, rfl⟩
        · cases e
        · cases e
          obtain ⟨t, rfl⟩ := tak rv.ints hv rd
          exact fin (v := .int _) hk ⟨_, rfl⟩ (.int _)
    cases mx with
    | true => exact W.max_tuple_default (I.ok.hd hc) hl hr (alike_ints ns) (dep ns) h0 h1
    | false => exact W.min_tuple_default (I.ok.hd hc) hl hr (alike_ints ns) (dep ns) h0 h1
theorem peMdef {mx : Bool} {a b : Expr} {x y : Ex} {kpos : Pos} (hc : X.calm = true) (hu : X.A.units + 80 < cLine) (hg : Gl X (Str.ofString (mdName mx))) (hm : X.mg (Str.ofString (mdName mx)) = none) (ha : PE X a (tE X.K P G x)) (hb : PE X b (tE X.K P G y)) (hx : isB x = false) (hy : isB y = false) (hs : noStar a = true) :
    PE X (.Call (.Name (Str.ofString (mdName mx)) p) [a] [⟨some "default", b, kpos⟩] pos) (tE X.K P G (.mdef mx x y)) := by
  have hv : bootBuiltins (Str.ofString (mdName mx)) = some (.builtin (mdName mx)) := by cases mx <;> rfl
  refine peImp (pe_callBK (cr_mdef hc hu mx) hg hm hv (pa_cons ha pa_nil (star1 hs)) (pk_cons hb pk_nil) (by cases mx <;> decide) (by cases mx <;> decide) (by rw [star1 hs]; rfl) (by rw [star1 hs]; rfl)) fun σ H Q h => ?_
  obtain ⟨en, φ, ok, d, en', he, q⟩ := h
  unfold ev at he
  obtain ⟨⟨d1, e1⟩, f1, he1⟩ := Res.bind_ok he
  obtain ⟨⟨d2, e2⟩, f2, he2⟩ := Res.bind_ok he1
  obtain ⟨c, f3, he3⟩ := Res.bind_ok he2
  cases he3
  refine ⟨en, φ, ok, _, e1, f1, fun v H1 ok1 ev1 v1 => ⟨e1, φ, ok1, _, _, f2, fun w H2 ok2 ev2 v2 => ⟨v, w, d1, d2, d, rfl, rfl, ?_, val_rep hy v2, f3, fun u r => q u H2 ok2 (ev1.trans' ev2) r⟩⟩⟩
  exact ((val_rep hx v1).mono ev2.fz).nw
/-! reversed(range(n)) -/
theorem piRevr {tg a : Expr} {x : Ex} {p2 pos2 : Pos} (hg : Gl X "reversed") (hm : X.mg "reversed" = none) (hg2 : Gl X "range") (hm2 : X.mg "range" = none) (ha : PE X a (tE X.K P G x)) (hx : isB x = false) (hs : noStar a = true) :
    PI X tg (.Call (.Name "reversed" p) [.Call (.Name "range" p2) [a] [] pos2] [] pos) (tI X.K P G .revr (.cons x .nil)) := by
  refine piImp (pi_revR hg hm (prg_1 hg2 hm2 ha (star1 hs)) rfl) fun σ H R q => ?_
  obtain ⟨en, φ, ok, ds, en', its, h1, h2, q⟩ := q
  unfold evs at h1
  obtain ⟨⟨d1, e1⟩, f1, h1⟩ := Res.bind_ok h1
  obtain ⟨⟨d2, e2⟩, f2, h1⟩ := Res.bind_ok h1
  cases h1
  unfold evs at f2
  cases f2
  refine ⟨en, φ, ok, d1, _, f1, fun v H1 ok1 ev1 v1 => ?_⟩
  cases d1 <;> try (cases h2; done)
  rename_i j _
  replace h2 : (if big62 j = true ∧ j.toNat ≤ line then Res.ok (downD (((j.toNat : Nat) : Int) - 1) j.toNat) else .bad) = .ok its := h2
  split at h2
  · rename_i hb
    cases h2
    have r := val_rep hx v1
    cases r
    obtain ⟨z1, z2⟩ := big62_ok hb.1
    refine ⟨j, rfl, by decide, by decide, z1, z2, ?_⟩
    have e0 : (j - 0).toNat = j.toNat := by omega
    rw [e0]
    have := q _ H1 ok1 ev1 (wlk_down (((j.toNat : Nat) : Int) - 1) j.toNat) (by rw [downD_len]; exact hb.2)
    have e1 : (0 : Int) + ((j.toNat : Nat) : Int) - 1 = ((j.toNat : Nat) : Int) - 1 := by omega
    rw [e1]
    exact this
  · cases h2
/-! xs.extend([..]), xs.remove(k), xs.insert(i, e) -/
theorem psExt {y : Str} {py apos cpos : Pos} {i : Nat} {e : Expr} {x : Ex} (ho : PE X (.Name y py) (tE X.K P G (.bvar i))) (he : PE X e (tO X.K P G x)) (hs : noStar e = true) (hl : (apos.endLine == cpos.line) = true) :
    PS X (.Expr (.Call (.Attribute (.Name y py) "extend" apos) [e] [] cpos) pos) (tS X.K P G W (.ext i x)) := by
  have call := pe_bm (X := X) (cpos := cpos) (apos := apos) PySem.F.plainAttrs_list PySem.F.slot_list_extend PySem.F.type_list_extend mt_extend ho (pa_cons he pa_nil (star1 hs)) rfl
    (by rw [star1 hs]; rfl) hl (star1 hs) rfl
  refine psImp (ps_expr call) fun D σ H h => ?_
  obtain ⟨en, φ, ok, fl, en', he, q⟩ := h
  unfold ex at he
  split at he
  · rename_i ws g0
    obtain ⟨⟨d, e1⟩, f1, he1⟩ := Res.bind_ok he
    split at he1
    · rename_i xs ys g1 g2
      split at he1
      · rename_i hlen
        cases he1
        have g1 : getS e1 i = .ow xs := g1
        have g2 : d = .lst ys := g2
        subst g2
        refine ⟨en, φ, ok, .lst ws, en, by unfold ev; rw [g0], fun w H0 ok0 ev0 v0 => ⟨?_, en, φ, ok0, _, e1, f1, fun u H1 ok1 ev1 v1 => ?_⟩⟩
        · have v0 : σ[i]? = some (some w) := v0
          obtain ⟨a, vs, s1, s2, _⟩ := ok0.ow g0
          rw [v0] at s1
          cases s1
          exact .inl ⟨rfl, vs, .of s2⟩
        · obtain ⟨a, vs, s1, s2, r, s3⟩ := ok1.ow g1
          have v0 : σ[i]? = some (some w) := v0
          rw [v0] at s1
          cases s1
          obtain ⟨b, us, rfl, hb, h2, r2⟩ := v1
          refine ⟨a, b, vs, us, rfl, rfl, s2, h2, by rw [r.length, r2.length, ← line_eq]; exact hlen, ?_⟩
          exact q σ _ φ (env_write ok1 g1 v0 s2 s3 (r.append r2)) (.of ((ev0.trans' ev1).trans' (evo_write s2 s3))) fun _ _ => rfl
      · cases he1
    · cases he1
  · cases he
theorem erase_at {k : Int} : ∀ {ns : List Int}, k ∈ ns → ∃ j, ns[j]? = some k ∧ (∀ m : Nat, m < j → ns[m]? ≠ some k) ∧ ns.eraseIdx j = ns.erase k
  | [], h => absurd h List.not_mem_nil
  | n :: ns, h => by
    by_cases e : n = k
    · subst e
      exact ⟨0, rfl, fun m hm => by omega, by simp⟩
    · have h : k ∈ ns := by
        rcases List.mem_cons.mp h with h | h
        · exact absurd h.symm e
        · exact h
      obtain ⟨j, h1, h2, h3⟩ := erase_at h
      refine ⟨j + 1, by simpa using h1, fun m hm => ?_, ?_⟩
      · cases m with
        | zero => simp; exact e
        | succ m => simpa using h2 m (by omega)
      · rw [List.eraseIdx_cons_succ, h3, List.erase_cons_tail (by simpa using e)]
theorem psRem {y : Str} {py apos cpos : Pos} {i : Nat} {e : Expr} {x : Ex} (ho : PE X (.Name y py) (tE X.K P G (.bvar i))) (he : PE X e (tE X.K P G x)) (hb : isB x = false) (hs : noStar e = true) (hl : (apos.endLine == cpos.line) = true) :
    PS X (.Expr (.Call (.Attribute (.Name y py) "remove" apos) [e] [] cpos) pos) (tS X.K P G W (.rem i x)) := by
  have call := pe_bm (X := X) (cpos := cpos) (apos := apos) PySem.F.plainAttrs_list PySem.F.slot_list_remove PySem.F.type_list_remove mt_remove ho (paC hs he paN) rfl
    (by rw [star1 hs]; rfl) hl (star1 hs) rfl
  refine psImp (ps_expr call) fun D σ H h => ?_
  obtain ⟨en, φ, ok, fl, en', he, q⟩ := h
  unfold ex at he
  split at he
  · rename_i ws g0
    obtain ⟨⟨d, e1⟩, f1, he1⟩ := Res.bind_ok he
    split at he1
    · rename_i xs g1
      obtain ⟨k, f2, he2⟩ := Res.bind_ok he1
      obtain ⟨ns, f3, he3⟩ := Res.bind_ok he2
      split at he3
      · rename_i hk
        cases he3
        have g1 : getS e1 i = .ow xs := g1
        have f2 : asInt d = .ok k := f2
        refine ⟨en, φ, ok, .lst ws, en, by unfold ev; rw [g0], fun w H0 ok0 ev0 v0 => ⟨?_, en, φ, ok0, [d], e1, ?_, fun us H1 ok1 ev1 v1 => ?_⟩⟩
        · have v0 : σ[i]? = some (some w) := v0
          obtain ⟨a, vs, s1, s2, _⟩ := ok0.ow g0
          rw [v0] at s1
          cases s1
          exact .inl ⟨rfl, vs, .of s2⟩
        · unfold evs
          rw [f1]
          rfl
        · obtain ⟨a, vs, s1, s2, r, s3⟩ := ok1.ow g1
          have v0 : σ[i]? = some (some w) := v0
          rw [v0] at s1
          cases s1
          cases v1 with
          | cons v1 t =>
            cases t
            cases d <;> cases f2
            have rk := val_rep hb v1
            cases rk
            have e3 := reps_ints r f3
            subst e3
            obtain ⟨j, j1, j2, j3⟩ := erase_at hk
            refine ⟨a, ns, k, j, rfl, rfl, s2, j1, j2, ?_⟩
            rw [j3]
            have ri : Reps X.K H1 ((ns.erase k).map V.int) ((ns.erase k).map .int) := by
              generalize ns.erase k = l
              induction l with
              | nil => exact .nil
              | cons n l ih => exact .cons (.int n) ih
            exact q σ _ φ (env_write ok1 g1 v0 s2 s3 ri) (.of ((ev0.trans' ev1).trans' (evo_write s2 s3))) fun _ _ => rfl
      · cases he3
    · cases he1
  · cases he
theorem psIns {y : Str} {py apos cpos : Pos} {i : Nat} {e1 e2 : Expr} {x1 x2 : Ex} (ho : PE X (.Name y py) (tE X.K P G (.bvar i))) (h1 : PE X e1 (tE X.K P G x1)) (h2 : PE X e2 (tE X.K P G x2)) (hb1 : isB x1 = false) (hb2 : isB x2 = false) (hs1 : noStar e1 = true) (hs2 : noStar e2 = true) (hl : (apos.endLine == cpos.line) = true) :
    PS X (.Expr (.Call (.Attribute (.Name y py) "insert" apos) [e1, e2] [] cpos) pos) (tS X.K P G W (.insX i x1 x2)) := by
  have call := pe_bm (X := X) (cpos := cpos) (apos := apos) PySem.F.plainAttrs_list PySem.F.slot_list_insert PySem.F.type_list_insert mt_insert ho (paC hs1 h1 (paC hs2 h2 paN)) rfl
    (by rw [star1 hs1, star1 hs2]; rfl) hl (star1 hs1) (starAny (by simp [hs2]))
  refine psImp (ps_expr call) fun D σ H h => ?_
  obtain ⟨en, φ, ok, fl, en', he, q⟩ := h
  unfold ex at he
  split at he
  · rename_i ws g0
    obtain ⟨⟨dk, ek⟩, fk, he0⟩ := Res.bind_ok he
    obtain ⟨⟨d, e1⟩, f1, he1⟩ := Res.bind_ok he0
    split at he1
    · rename_i xs k g1 gk
      split at he1
      · rename_i hlen
        cases he1
        have g1 : getS e1 i = .ow xs := g1
        have gk : dk = .int k := gk
        subst gk
        refine ⟨en, φ, ok, .lst ws, en, by unfold ev; rw [g0], fun w H0 ok0 ev0 v0 => ⟨?_, en, φ, ok0, [.int k, d], e1, ?_, fun us H1 ok1 ev1 v1 => ?_⟩⟩
        · have v0 : σ[i]? = some (some w) := v0
          obtain ⟨a, vs, s1, s2, _⟩ := ok0.ow g0
          rw [v0] at s1
          cases s1
          exact .inl ⟨rfl, vs, .of s2⟩
        · unfold evs
          rw [fk]
          simp only [Res.ok_bind]
          unfold evs
          rw [f1]
          rfl
        · obtain ⟨a, vs, s1, s2, r, s3⟩ := ok1.ow g1
          have v0 : σ[i]? = some (some w) := v0
          rw [v0] at s1
          cases s1
          cases v1 with
          | cons v1 t =>
            cases t with
            | cons v2 t =>
              cases t
              have rk := val_rep hb1 v1
              cases rk
              refine ⟨a, vs, k, _, rfl, rfl, s2, by rw [r.length, ← line_eq]; exact hlen.1, hlen.2.1, hlen.2.2, ?_⟩
              exact q σ _ φ (env_write ok1 g1 v0 s2 s3 (((r.take _).append (.cons (val_rep hb2 v2) .nil)).append (r.drop _))) (.of ((ev0.trans' ev1).trans' (evo_write s2 s3))) fun _ _ => rfl
      · cases he1
    · cases he1
  · cases he
/-! a list of either way -/
theorem peIfO {c a b : Expr} {z x y : Ex} (hc : PT X c (tT X.K P G z)) (ha : PE X a (tO X.K P G x)) (hb : PE X b (tO X.K P G y)) : PE X (.IfExp c a b pos) (tO X.K P G (.ite z x y)) := by
  refine peImp (pe_ifExp hc ha hb) fun σ H Q h => ?_
  obtain ⟨en, φ, ok, d, en', he, q⟩ := h
  unfold ev at he
  obtain ⟨⟨d1, e1⟩, f1, he1⟩ := Res.bind_ok he
  obtain ⟨k, f2, he2⟩ := Res.bind_ok he1
  obtain rfl := asBl_ok f2
  refine ⟨en, φ, ok, k, e1, f1, fun H1 ok1 ev1 => ?_⟩
  cases k with
  | true => exact ⟨e1, φ, ok1, d, en', he2, fun v H2 ok2 ev2 v2 => q v H2 ok2 (ev1.trans' ev2) (valO_before ok1 ev1 v2)⟩
  | false => exact ⟨e1, φ, ok1, d, en', he2, fun v H2 ok2 ev2 v2 => q v H2 ok2 (ev1.trans' ev2) (valO_before ok1 ev1 v2)⟩
end
end Vi

/-! E, part 1: an __init__ of an exception class whose first statement is super().__init__(place). -/
namespace Ex2
open PySem PySem.Spec PyProof.Rows
open L2
/-- the names of such a def -/
structure InS (p0 p1 : Str) (sc : Scope) : Prop where
  kind : sc.kind = .function
  co : sc.isCoroutine = false
  gen : sc.isGenerator = false
  ne : p0 ≠ p1
  nocell : ∀ y ∈ sc.names, y.2 ≠ .cell
  free : ∀ y ∈ sc.names, y.2 = .free → y.1 = "__class__"
  l0 : sc.names.lookup p0 = some .local
  l1 : sc.names.lookup p1 = some .local
  sup : sc.names.lookup ("super" : Str) = some .globalImplicit
  cls : sc.names.lookup ("__class__" : Str) = some .free
def inSB (p0 p1 : Str) (sc : Scope) : Bool :=
  decide (sc.kind = .function) && !sc.isCoroutine && !sc.isGenerator && decide (p0 ≠ p1) && (sc.names.all fun y => !decide (y.2 = .cell) && (!decide (y.2 = .free) || decide (y.1 = "__class__"))) &&
    decide (sc.names.lookup p0 = some .local) && decide (sc.names.lookup p1 = some .local) && decide (sc.names.lookup ("super" : Str) = some .globalImplicit) && decide (sc.names.lookup ("__class__" : Str) = some .free)
theorem inS_by {p0 p1 : Str} {sc : Scope} (h : inSB p0 p1 sc = true) : InS p0 p1 sc := by
  unfold inSB at h
  simp only [Bool.and_eq_true, Bool.or_eq_true, Bool.not_eq_true', decide_eq_true_eq, decide_eq_false_iff_not, List.all_eq_true] at h
  obtain ⟨⟨⟨⟨⟨⟨⟨⟨h1, h2⟩, h3⟩, h4⟩, h5⟩, h6⟩, h7⟩, h8⟩, h9⟩ := h
  exact ⟨h1, h2, h3, h4, fun y hy => (h5 y hy).1, fun y hy e => (h5 y hy).2.resolve_left (fun z => z e), h6, h7, h8, h9⟩
abbrev sEnv (qual : Str) (sc : Scope) (L f : Addr) (cd : Value) (cc : Addr) : Env := PySem.W.ksEnv qual sc L f cd cc
/-- the context of its body -/
def sCx (P : Program) (w : World) (K : PySem.W.Frag) (mg : Str → Option Value) (base : Heap) (N : List Str) (qual : Str) (sc : Scope) (f : Addr) (cd : Value) (cc : Addr) (A : Around) (outer : List Env) (s : Shared) (H : Hp) : Cx where
  prog := P
  w := w
  K := K
  mg := mg
  base := base
  A := A.deeper (sEnv qual sc s.heap.objs.size f cd cc)
  N := N
  s_0 := s
  H_0 := H
  env := sEnv qual sc s.heap.objs.size f cd cc
  outer := outer
  stack := sEnv qual sc s.heap.objs.size f cd cc :: outer
  ex := []
  calm := true
  fn := fun _ => false
  pn := []
  xe := fun _ _ => False
section
variable {P : Program} {w : World} {K : PySem.W.Frag} {mg : Str → Option Value} {base : Heap} {p0 p1 qual : Str} {sc : Scope} {f cc D : Addr} {cd : Value} {A : Around} {outer : List Env} {s : Shared} {H : Hp}
theorem inv_startS {h1 : Heap} {tk : Nat} {u0 u1 : Value} {v0 v1 : V} {cl : Value} {cld : Option Addr} {csl : Array (Option Value)} (S : InS p0 p1 sc) (hd : A.handled = none) (e0 : Env0 P w K mg base A outer s H) (hcell : K.lookup cc = some ⟨cl, cld, .cell (some (.ref D)), csl⟩)
    (r0 : RelV v0 u0) (r1 : RelV v1 u1) (hns : h1.Ns s.heap.objs.size fun y => ([(p0, u0), (p1, u1)] : List (Str × Value)).reverse.lookup y) (kp : ∀ b o, s.heap.get? b = some o → h1.get? b = some o) :
    Inv (sCx P w K mg base [p0, p1] qual sc f cd cc A outer s H) [] [some v0, some v1] H { s with heap := h1, toks := tk } := by
  have noA : ∀ b : Addr, b ∉ (sCx P w K mg base [p0, p1] qual sc f cd cc A outer s H).ex := fun b z => absurd (show b ∈ ([] : List Addr) from z) (by simp)
  have one : ∀ {y : Str} {c : Addr}, (sCx P w K mg base [p0, p1] qual sc f cd cc A outer s H).env.cells.lookup y = some c → y = "__class__" ∧ c = cc := fun {y c} e => by
    have e : ([("__class__", cc)] : List (Str × Addr)).lookup y = some c := e
    by_cases h : y = "__class__"
    · subst h
      rw [List.lookup_cons_self] at e
      exact ⟨rfl, (Option.some.inj e).symm⟩
    · have h' : (y == ("__class__" : Str)) = false := by simpa using h
      simp [List.lookup, h'] at e
  have bcc := e0.bs cc _ (e0.mod.kin cc _ hcell)
  refine ⟨⟨e0.mod, S.kind, rfl, rfl, Nat.le_refl _, fun x y c h1 h2 => ?_, fun y hy => ?_, fun y c z _ => (nomatch (show false = true from z)), fun _ => hd, Around.frames_deeper e0.frames, .inr ⟨rfl, rfl⟩, fun b z => absurd z (noA b), e0.bs, e0.bsz, fun b _ _ => noA b, fun b z => absurd z (noA b), e0.funs, e0.frf⟩,
    rfl, e0.bare, Un.kept kp, ⟨_, hns, fun i y v h1 h2 h3 => ?_⟩, fun y c h => ?_, e0.hok.fresh (Nat.le_refl _), fun y c h => ?_, fun p hp => absurd (show p ∈ ([] : List (Addr × Obj)) from hp) (by simp), e0.hok.kept kp, rfl⟩
  · rw [(one h1).1, (one h2).1]
  · have hy : sc.names.lookup y = some .cell ∨ sc.names.lookup y = some .free := hy
    rcases hy with hy | hy
    · exact absurd rfl (S.nocell _ (PySem.mem_of_lookup hy))
    · have := S.free _ (PySem.mem_of_lookup hy) rfl
      have e : y = "__class__" := this
      subst e
      exact ⟨cc, List.lookup_cons_self⟩
  · have k0 : (p1 == p0) = false := by simpa using fun e => S.ne e.symm
    match i, h1, h2 with
    | 0, h1, h2 =>
      cases h1
      cases h2
      refine ⟨u0, r0, .inl ⟨S.l0, ?_⟩⟩
      have k1 : (p0 == p1) = false := by simpa using S.ne
      simp [List.lookup, k1]
    | 1, h1, h2 =>
      cases h1
      cases h2
      exact ⟨u1, r1, .inl ⟨S.l1, by simp [List.lookup]⟩⟩
    | i + 2, h1, h2 => simp [sCx] at h1
  · rw [(one h).2]
    exact ⟨_, _, kp _ _ bcc.1, rfl⟩
  · rw [(one h).2]
    exact bcc.2
end
/-- what is told of such a def: its code, its cell, its first name -/
structure SupF (P : Program) (K : PySem.W.Frag) (f D cda cc : Addr) (name qual p0 : Str) (params : Arguments) (body : List Stmt) (sc : Scope) (dV kV doc pm ct : Value) (an : Option Addr) : Prop where
  lk : ∃ oc od osl, K.lookup f = some ⟨oc, od, .func (PySem.W.ksFn name qual params body sc dV kV doc pm an (.ref cda) ct cc), osl⟩
  cd : PySem.W.codeIn K (.ref cda) qual = true
  code : ∃ ccl cdd ccs vs file tf, K.lookup cda = some ⟨ccl, cdd, .fields vs, ccs⟩ ∧ vs[2]? = some (.str file tf) ∧ ((P.main.file : Str) == file) = true
  cell : ∃ cl cld csl, K.lookup cc = some ⟨cl, cld, .cell (some (.ref D)), csl⟩
  cls : ∃ cd, PySem.W.clsIn K D = some cd
  par : ∃ ar, (params.posonlyargs ++ params.args).head? = some ar ∧ ar.arg = p0
  top : (P.main.scope.names.lookup ("super" : Str)).isSome = false
  opq : PySem.W.nsIn K cStatics "thirdparty.any" = some none
section
variable {P : Program} {w : World} {K : PySem.W.Frag} {mg : Str → Option Value} {base : Heap} {name p0 p1 qual : Str} {params : Arguments} {body : List Stmt} {sc : Scope} {f cc D C a cda : Addr} {dV kV doc pm ct : Value} {an : Option Addr} {A A' : Around} {outer : List Env} {s0 s : Shared} {H0 H : Hp}
  {pins : List (Addr × Obj)} {σ : L2.St} {E : Value → Shared → Prop} {v : V}
abbrev Xs (P : Program) (w : World) (K : PySem.W.Frag) (mg : Str → Option Value) (base : Heap) (p0 p1 qual : Str) (sc : Scope) (f cda cc : Addr) (A : Around) (outer : List Env) (s : Shared) (H : Hp) : Cx := sCx P w K mg base [p0, p1] qual sc f (.ref cda) cc A outer s H
/-- the object that super() tells -/
theorem sup_obj {b : List Stmt} {q0 q1 : Pos} {whole : Sem Value} {Q : Value → Shared → Prop} (F : SupF P K f D cda cc name qual p0 params body sc dV kV doc pm ct an) (S : InS p0 p1 sc) (hm : mg "super" = none) (hsub : PySem.W.mroIn K C (.ref D) = some true)
    (I : Inv (Xs P w K mg base p0 p1 qual sc f cda cc A outer s0 H0) pins [some (.ref a), some v] H s) (ha : H a = some (exo a C none))
    (h : ∀ so s', Inv (Xs P w K mg base p0 p1 qual sc f cda cc A outer s0 H0) ((so, PySem.W.ks_superObj D a C) :: pins) [some (.ref a), some v] H s' → Q (.ref so) s') :
    _root_.PySem.wpAt (model P w) A' (.func b (sEnv qual sc s0.heap.objs.size f (.ref cda) cc)) (attributeBase (.Call (.Name "super" q0) [] [] q1) "__init__" (sEnv qual sc s0.heap.objs.size f (.ref cda) cc) whole) Q E s := by
  obtain ⟨oc, od, osl, lk⟩ := F.lk
  obtain ⟨ccl, cdd, ccs, vs, file, tf, hcode, hvs, hfile⟩ := F.code
  obtain ⟨cl, cld, csl, hcell⟩ := F.cell
  obtain ⟨cdD, hD⟩ := F.cls
  obtain ⟨ar, hp, har⟩ := F.par
  have KX : K.In s.heap := I.kIn
  obtain ⟨t1, hx⟩ := exo_at I.hok ha
  obtain ⟨m, hn, hl⟩ := I.loc
  obtain ⟨u, ru, lu⟩ := hl 0 p0 (.ref a) rfl rfl (.inl S.l0)
  obtain rfl : u = Value.ref a := ru
  have mp : m p0 = some (.ref a) := by
    rcases lu with ⟨_, e⟩ | ⟨e, _⟩
    · exact e
    · have e : sc.names.lookup p0 = some .cell ∨ sc.names.lookup p0 = some .free := e
      rw [S.l0] at e
      rcases e with e | e <;> cases e
  obtain ⟨oD, hD1, hD2⟩ : ∃ oD, s.heap.get? D = some oD ∧ oD.data = .cls cdD := by
    unfold PySem.W.clsIn at hD
    split at hD
    · rename_i c d cd' sl ho
      cases hD
      exact ⟨_, KX _ _ ho, rfl⟩
    · cases hD
  obtain ⟨mb, hb1, hb2⟩ := I.mod.blt
  refine PySem.ks_wpAt_super_base (env := sEnv qual sc s0.heap.objs.size f (.ref cda) cc) S.sup S.cls (by decide) rfl (KX _ _ lk) rfl hp rfl (KX _ _ hcode) rfl hvs hfile F.top ?_
  refine PySem.W.ks_loadName_global S.kind S.sup (Calls.loadGlobal_builtin (env := sEnv qual sc s0.heap.objs.size f (.ref cda) cc) (I.mod.glob.keeps I.bk) hm (hb1.keeps I.bk) ((hb2 _ (by decide)).trans (by first | boot_by_name | rfl | kernel_rfl)) ⟨rfl, ?_⟩)
  refine wpAny_loadName_free S.kind S.cls rfl ⟨_, KX _ _ hcell, rfl⟩ ?_
  rw [har]
  refine wpAny_loadName_local S.kind S.l0 hn mp ?_
  refine PySem.ks_wpAny_isType_cls hD1 hD2 ⟨rfl, ?_⟩
  obtain ⟨hh, g, d, t, os⟩ := s
  refine PySem.ks_wpAny_call_super hD1 hD2 hx rfl (fun c e => nomatch e) (PySem.W.looks_mroIn KX hsub) fun h' e k => ?_
  exact h _ _ (ClX.pin_new I k (Nat.le_refl _) e fun v z => nomatch z)
/-- ValueError.__init__ bound to an exception: nothing of it is told -/
theorem bound_init {B : Around} {X : Cx} {u : Addr} {us : List Value} {Q : Value → Shared → Prop} (T : OexC X.K C) (I : Inv X pins σ H s) (ha : H a = some (exo a C none)) (hu : s.heap.get? u = some (PySem.W.kxs_mw "ValueError.__init__" a)) (hz : us.length ≤ sizeLine)
    (h : ∀ s', Inv X pins σ H s' → Q .none s') : wpAny (model X.prog X.w) B (call (.ref u) us) Q E s := by
  obtain ⟨nm, qn, N, bs, bm, sn, sub, ab, col, dd, k0, k1, k2, k3, k5, hC, hbm⟩ := T.cls
  obtain ⟨t1, he⟩ := exo_at I.hok ha
  have hC' := I.kIn _ _ hC
  have same : upd H a (exo a C none) = H := funext fun b => by
    by_cases hb : b = a
    · rw [hb, upd_same, ha]
    · rw [upd_ne hb]
  obtain ⟨hh, g, d, tk, os⟩ := s
  refine wpAny_call (codeAny_of_tree ?_)
  show wpAny _ B.in1 (callAny (.ref u) ⟨us, []⟩) _ _ _
  simp only [callAny]
  refine wpAny_bind (wpAny_load hu ?_)
  have kind : (Value.type "method-wrapper" == Value.type "method" || Value.type "method-wrapper" == Value.type "builtin_function_or_method" || Value.type "method-wrapper" == Value.type "method-wrapper") = true := by decide
  simp only [PySem.W.kxs_mw, kind, if_true]
  refine PySem.W.KFB.if_so (by decide) ?_
  refine wpAny_bind (PySem.W.check_bound_init (F.excBase_ValueError).toExcCallFacts hC' he rfl ?_)
  refine wpAny_bind (wpAny_pure (wpAny_pure ?_))
  refine ⟨plainId_quiet (F.excBase_ValueError).init.plain _, codeAny_builtin (F.excBase_ValueError).initEntry ?_⟩
  refine PySem.W.exc_init_tree (cls := .ref C) (t0 := t1) (dv := none) (c2 := .none) (c3 := .none) (b4 := .bool false) he hz fun h' k e' _ => ?_
  have J := I.write (t' := tk) (x := a) (e := a) (o := exo a C none) (by rw [ha]; exact True.intro) (.inl rfl) k ⟨_, e'⟩ (exo_ok e')
  rw [same] at J
  exact h _ J
/-- what is told of a class of exceptions, at the class D of its chain -/
structure ChF (K : PySem.W.Frag) (C D : Addr) (tg : Value) : Prop where
  oex : OexC K C
  sub : PySem.W.mroIn K C (.ref D) = some true
  sup : PySem.W.ks_superIn K C D "__init__" = some (some tg)
  ve : PySem.W.subIn K (.ref C) (.type "ValueError") = some true
theorem inst_of {X : Cx} (I : Inv X pins σ H s) (ha : H a = some (exo a C none)) : ∃ ox, PySem.W.InstAt s.heap a ox C none := by
  obtain ⟨t1, hx⟩ := exo_at I.hok ha
  exact ⟨_, hx, rfl, rfl, trivial⟩
/-- the tree of super().__init__(x) -/
theorem eval_sup {o : Expr} {x m : Str} {px apos pos : Pos} {env : Env} (h4 : (apos.endLine == pos.line) = true) :
    eval (.Call (.Attribute o m apos) [.Name x px] [] pos) env = (do
      let ov ← attributeBase o m env (eval o env)
      standAt apos.atName
      let (f, first) ← holding [ov] (getMethod ov m (do return (← importBound o env).getD true))
      callWith pos f first (backTo pos (starEach [.Name x px] env)) []) := by
  have e1 : eval (.Call (.Attribute o m apos) [.Name x px] [] pos) env = (do
      let ov ← attributeBase o m env (eval o env)
      standAt apos.atName
      methodCall o m apos pos env ov (1 + 0) (backTo pos (starEach [.Name x px] env)) []) := rfl
  rw [e1]
  have few : methodCallForm (1 + 0) (backTo pos (starEach [.Name x px] env)) [] = true := by
    unfold methodCallForm
    rfl
  unfold methodCall calleeOf methodCallPos
  rw [few, h4]
  rfl
theorem interS {L : Addr} {cd : Value} (S : InS p0 p1 sc) : interactive (sEnv qual sc L f cd cc) = false := by
  unfold interactive
  simp [S.kind]
/-- super().__init__(place) where ValueError stands above -/
theorem sup_VE {b : List Stmt} {q0 q1 q2 q3 q4 q5 : Pos} (hq : (q2.endLine == q4.line) = true) (F : SupF P K f D cda cc name qual p0 params body sc dV kV doc pm ct an) (S : InS p0 p1 sc) (hm : mg "super" = none) (T : ChF K C D (.builtin "ValueError.__init__")) (h1 : (p1 == ("__debug__" : Str)) = false ∧ (p1 == ("__classdict__" : Str)) = false)
    (I : Inv (Xs P w K mg base p0 p1 qual sc f cda cc A outer s0 H0) pins [some (.ref a), some v] H s) (ha : H a = some (exo a C none)) {Q : PySem.Flow → Shared → Prop}
    (h : ∀ s', Inv (Xs P w K mg base p0 p1 qual sc f cda cc A outer s0 H0) pins [some (.ref a), some v] H s' → Q .next s') :
    _root_.PySem.wpAt (model P w) (Xs P w K mg base p0 p1 qual sc f cda cc A outer s0 H0).A (.func b (sEnv qual sc s0.heap.objs.size f (.ref cda) cc)) (exec (.Expr (.Call (.Attribute (.Call (.Name "super" q0) [] [] q1) "__init__" q2) [.Name p1 q3] [] q4) q5) (sEnv qual sc s0.heap.objs.size f (.ref cda) cc)) Q (fun _ _ => False) s := by
  refine PySem.ks_wpAt_Expr_any (PySem.ks_wpAt_MethodCall (sup_obj F S hm T.sub I ha fun so s1 I1 => ?_) (eval_sup hq)) (interS S)
  have KX : K.In s1.heap := I1.kIn
  obtain ⟨ox, J⟩ := inst_of I1 ha
  have hI : PySem.W.Looks (model P w) s1.heap (isInstance (.ref a) (.type "ValueError")) true := J.type.andThen (PySem.W.looks_subIn KX T.ve)
  have hsu := T.sup
  obtain ⟨cd, hcd⟩ : ∃ cd, PySem.W.clsIn K C = some cd := by
    cases e : PySem.W.clsIn K C with
    | none => unfold PySem.W.ks_superIn at hsu; rw [e] at hsu; cases hsu
    | some cd => exact ⟨cd, rfl⟩
  unfold PySem.W.ks_superIn at hsu
  rw [hcd, Option.bind_some] at hsu
  have hso := ClX.pin_at I1
  have ne := PySem.W.ks_ne KX J hcd
  have lk := PySem.W.looks_clsIn (M := model P w) KX hcd
  have I1' := I1
  obtain ⟨hh, g, d, t, os⟩ := s1
  refine PySem.W.kxs_getMethod PySem.W.kxs_ValueError hso (PySem.W.looks_opaque KX F.opq) (l₀ := cd.mro) (fun B Q E s k q => wpAny_bind (lk B _ E s k (wpAny_pure q))) rfl KX hsu hI ne (by decide) ?_
  have I2 := ClX.pin_new (t' := t + 1) (o := PySem.W.kxs_mw "ValueError.__init__" a) I1' (fun _ _ z => Heap.get?_push_of_some _ z) (Nat.le_refl _) (Heap.get?_push_size hh rfl) fun v z => nomatch z
  have hpa : PA (Xs P w K mg base p0 p1 qual sc f cda cc A outer s0 H0) [.Name p1 q3] (tCons (tVar 1) tNil) := pa_cons (pe_var rfl (.inl S.l1) h1.1 h1.2) pa_nil
  refine PySem.W.kxs_callWith (i := "ValueError.__init__") (x := a) rfl (PySem.Calls.evalArgs_plain ?_)
  refine thn (hpa.run q4 _ _ _ H (fun vs H1 => vs = [v] ∧ H1 = H) I2 ⟨v, rfl, rfl, rfl⟩) fun us s2 ⟨vs, H1, I3, rv, e1, e2⟩ => ?_
  subst e1 e2
  refine ⟨ClX.pin_at I3, bound_init T.oex I3 ha (ClX.pin_at I3) ?_ fun s' J' => h _ (ClX.unpin (ClX.unpin J'))⟩
  show us.length ≤ sizeLine
  rw [← Paired.length rv]
  exact Nat.le_trans (show 1 ≤ 1000 by decide) (by rw [sizeLine_eq]; decide)
/-- .. where a def of the class above stands -/
theorem sup_own {b : List Stmt} {q0 q1 q2 q3 q4 q5 : Pos} {k : Nat} {g : Addr} {fd : FuncData} {ps : List Str} {sp : Sp} {R : Hp → Prop} (hq : (q2.endLine == q4.line) = true) (F : SupF P K f D cda cc name qual p0 params body sc dV kV doc pm ct an) (S : InS p0 p1 sc) (hm : mg "super" = none) (T : ChF K C D (.ref g)) (h1 : (p1 == ("__debug__" : Str)) = false ∧ (p1 == ("__classdict__" : Str)) = false)
    (tg : PySem.W.typeIn K (.ref g) = some (.type "function")) (fg : PySem.W.fnIn K g = true) (G : FnOk P w K mg base C8.CX0 k g fd ps sp) (hb : L2.Binds K fd ps []) (hps : ps.length = 2) (hr : Room k (Xs P w K mg base p0 p1 qual sc f cda cc A outer s0 H0).A)
    (I : Inv (Xs P w K mg base p0 p1 qual sc f cda cc A outer s0 H0) pins [some (.ref a), some v] H s) (ha : H a = some (exo a C none)) {Q : PySem.Flow → Shared → Prop} (hs : sp [.ref a, v] H (fun _ H' => R H') C8.E0)
    (h : ∀ s' H', Inv (Xs P w K mg base p0 p1 qual sc f cda cc A outer s0 H0) pins [some (.ref a), some v] H' s' → R H' → Q .next s') :
    _root_.PySem.wpAt (model P w) (Xs P w K mg base p0 p1 qual sc f cda cc A outer s0 H0).A (.func b (sEnv qual sc s0.heap.objs.size f (.ref cda) cc)) (exec (.Expr (.Call (.Attribute (.Call (.Name "super" q0) [] [] q1) "__init__" q2) [.Name p1 q3] [] q4) q5) (sEnv qual sc s0.heap.objs.size f (.ref cda) cc)) Q (fun _ _ => False) s := by
  refine PySem.ks_wpAt_Expr_any (PySem.ks_wpAt_MethodCall (sup_obj F S hm T.sub I ha fun so s1 I1 => ?_) (eval_sup hq)) (interS S)
  have KX : K.In s1.heap := I1.kIn
  obtain ⟨ox, J⟩ := inst_of I1 ha
  have hsu := T.sup
  obtain ⟨cd, hcd⟩ : ∃ cd, PySem.W.clsIn K C = some cd := by
    cases e : PySem.W.clsIn K C with
    | none => unfold PySem.W.ks_superIn at hsu; rw [e] at hsu; cases hsu
    | some cd => exact ⟨cd, rfl⟩
  unfold PySem.W.ks_superIn at hsu
  rw [hcd, Option.bind_some] at hsu
  obtain ⟨og, hog, hoc⟩ : ∃ og, s1.heap.get? g = some og ∧ og.cls = .type "function" := by
    have t' : (K.lookup g).map (·.cls) = some (.type "function") := tg
    cases z : K.lookup g with
    | none => rw [z] at t'; cases t'
    | some og => rw [z] at t'; exact ⟨og, KX _ _ z, Option.some.inj t'⟩
  have hso := ClX.pin_at I1
  have ne := PySem.W.ks_ne KX J hcd
  have lk := PySem.W.looks_clsIn (M := model P w) KX hcd
  have I1' := I1
  obtain ⟨hh, gg, d, t, os⟩ := s1
  refine PySem.ks_wpAny_getMethod_super hso (PySem.W.looks_opaque KX F.opq) (l₀ := cd.mro) (fun B Q E s k q => wpAny_bind (lk B _ E s k (wpAny_pure q))) rfl KX hsu hog hoc ne (by decide) ?_
  have I2 := ClX.pin_new (t' := t + 1) (o := PySem.W.methodObj (.ref g) (.ref a)) I1' (fun _ _ z => Heap.get?_push_of_some _ z) (Nat.le_refl _) (Heap.get?_push_size hh rfl) fun v z => nomatch z
  have bn : base.get? hh.objs.size = none := ClX.base_none I1' (Nat.le_refl _)
  have nl : hh.objs.size ≠ (Xs P w K mg base p0 p1 qual sc f cda cc A outer s0 H0).env.locals := (I2.pin (hh.objs.size, PySem.W.methodObj (.ref g) (.ref a)) (List.mem_append_right _ List.mem_cons_self)).2.2.1
  have hpa : PA (Xs P w K mg base p0 p1 qual sc f cda cc A outer s0 H0) [.Name p1 q3] (tCons (tVar 1) tNil) := pa_cons (pe_var rfl (.inl S.l1) h1.1 h1.2) pa_nil
  refine PySem.W.callWith_M (K := K) (h₀ := base) (first := []) I2.ok.mod.kin (news_at nl bn (ClX.pin_at I2)) List.mem_cons_self fg ?_ rfl rfl
  refine thn (hpa.run q4 _ _ _ H (fun vs H1 => vs = [v] ∧ H1 = H) I2 ⟨v, rfl, rfl, rfl⟩) fun us s2 ⟨vs, H1, I3, rv, e1, e2⟩ => ?_
  subst e1 e2
  refine ⟨⟨ClX.pin_at I3, I3.kIn⟩, ?_⟩
  have lu : us.length = 1 := (Paired.length rv).symm
  have rv2 : Vals [V.ref a, v] (Value.ref a :: us) := .cons rfl rv
  refine wpAny_call (PySem.W.method_call (ClX.pin_at I3) (codeAny_mono (G.run _ _ s2 _ ⟨.ref a :: us, []⟩ (.ref a :: us) [.ref a, v] (fun _ H' => R H') C8.E0 hr I3.env0 (by
    have := hb s2 (.ref a :: us) I3.kIn (by simp [lu, hps])
    rwa [List.append_nil] at this) rv2 hs) fun r s' hq' => ?_))
  cases r with
  | error e => exact (show False from hq').elim
  | ok fl =>
    cases fl with
    | ret u =>
      obtain ⟨v', H', I4, r4, q4'⟩ := I3.after hq'
      exact h _ H' (ClX.unpin (ClX.unpin I4)) q4'
    | next => exact False.elim hq'
    | brk => exact False.elim hq'
    | cont => exact False.elim hq'
/-- what a class of exceptions has at no class of its own -/
def NoF (K : PySem.W.Frag) (C : Addr) : Prop := PySem.W.findIn K (.ref C) "place" = some none ∧ PySem.W.findIn K (.ref C) "name" = some none
/-- an __init__ right above ValueError: place and name are stored -/
def spB (K : PySem.W.Frag) (D : Addr) (nm : Str) : Sp := fun vs H Q _ => ∃ (a C : Addr) (v : V), vs = [.ref a, v] ∧ H a = some (exo a C none) ∧ ChF K C D (.builtin "ValueError.__init__") ∧ NoF K C ∧
  ∀ dx, H dx = none → dx ≠ a → Q .non (upd (upd (upd H dx (exd dx [("place", v)])) a (exo a C (some dx))) dx (exd dx [("name", .str nm), ("place", v)]))
/-- .. of a class above that -/
def spL (K : PySem.W.Frag) (D g B : Addr) (nm nm2 : Str) : Sp := fun vs H Q _ => ∃ (a C : Addr) (v : V), vs = [.ref a, v] ∧ H a = some (exo a C none) ∧ ChF K C D (.ref g) ∧ ChF K C B (.builtin "ValueError.__init__") ∧ NoF K C ∧
  ∀ dx, H dx = none → dx ≠ a → Q .non (upd (upd (upd (upd H dx (exd dx [("place", v)])) a (exo a C (some dx))) dx (exd dx [("name", .str nm), ("place", v)])) dx (exd dx [("name", .str nm2), ("name", .str nm), ("place", v)]))
/-- such a def runs: its first statement, then the rest -/
theorem run_sup {q0 q1 q2 q3 q4 q5 : Pos} {k : Nat} {rest : List Stmt} {u0 u1 : Value} {args : Args} {Q : VK} {E : XK} {CX : CXT} (F : SupF P K f D cda cc name qual p0 params body sc dV kV doc pm ct an) (S : InS p0 p1 sc)
    (hbd : body = .Expr (.Call (.Attribute (.Call (.Name "super" q0) [] [] q1) "__init__" q2) [.Name p1 q3] [] q4) q5 :: rest) (hr : Room (k + 1) A) (e0 : Env0 P w K mg base A outer s H) (hb : BindsTo s (PySem.W.ksFn name qual params body sc dV kV doc pm an (.ref cda) ct cc) args [(p0, u0), (p1, u1)]) (r0 : RelV (V.ref a) u0) (r1 : RelV v u1)
    (first : ∀ s1 (Q' : PySem.Flow → Shared → Prop), Inv (Xs P w K mg base p0 p1 qual sc f cda cc A outer s H) [] [some (.ref a), some v] H s1 →
      (∀ s' H', Inv (Xs P w K mg base p0 p1 qual sc f cda cc A outer s H) [] [some (.ref a), some v] H' s' → (∃ t, PSs (Xs P w K mg base p0 p1 qual sc f cda cc A outer s H) rest t ∧ t { nx := fun _ H'' => Q .non H'', rt := Q } [some (.ref a), some v] H') → Q' .next s') →
      _root_.PySem.wpAt (model P w) (Xs P w K mg base p0 p1 qual sc f cda cc A outer s H).A (.func body (sEnv qual sc s.heap.objs.size f (.ref cda) cc)) (exec (.Expr (.Call (.Attribute (.Call (.Name "super" q0) [] [] q1) "__init__" q2) [.Name p1 q3] [] q4) q5) (sEnv qual sc s.heap.objs.size f (.ref cda) cc)) Q' (fun _ _ => False) s1) :
    codeAny (model P w) A (.call (.ref f) args) (CR CX outer P w H s Q E) s := by
  obtain ⟨oc, od, osl, lk⟩ := F.lk
  obtain ⟨cl, cld, csl, hcell⟩ := F.cell
  have KX : K.In s.heap := e0.mod.kin.keeps fun b o e => (e0.bs b o e).1
  have lim : s.heap.NoLimit := e0.mod.nolimit.keeps fun b o e => (e0.bs b o e).1
  have hloc : ∀ y ∈ ([(p0, u0), (p1, u1)] : List (Str × Value)), sc.names.lookup y.1 = some .local := fun y hy => by
    rcases List.mem_cons.mp hy with rfl | hy
    · exact S.l0
    · rw [List.mem_singleton.mp hy]; exact S.l1
  refine PySem.ks_codeAny_call_defAt (fd := PySem.W.ksFn name qual params body sc dV kV doc pm an (.ref cda) ct cc) (body := body) hr.depth (KX _ _ lk) rfl lim (PySem.W.codeRec_of KX F.cd) rfl hb S.nocell hloc (fun h0 hns kp => ?_) S.co S.gen S.kind
  have I : Inv (Xs P w K mg base p0 p1 qual sc f cda cc A outer s H) [] [some (.ref a), some v] H { s with heap := h0, toks := s.toks + 2 } := inv_startS S hr.hd e0 hcell r0 r1 hns kp
  have fin : ∀ {σ' : L2.St} {H' : Hp} {s' : Shared} {v' : V} {u : Value}, Inv (Xs P w K mg base p0 p1 qual sc f cda cc A outer s H) [] σ' H' s' → RelV v' u → Q v' H' → CE outer P w H s Q u s' :=
    fun {σ' H' s' v' u} J rv q => ⟨v', H', J.os, J.bare, J.base, J.hok, rv, q⟩
  conv =>
    arg 4
    rw [hbd]
  refine PySem.ks_wpAt_execs_cons (PySem.ks_wpAt_mono (first _ _ I fun s' H' J hrest => ?_) (fun _ _ z => z) fun _ _ z => z.elim)
  obtain ⟨t, ht, hq⟩ := hrest
  refine wpAt_of_wpAny (wpAny_mono (ht.run [] s' _ H' _ J hq) (fun fl s'' hs => ?_) fun _ _ z => z.elim)
  cases fl with
  | ret u =>
    obtain ⟨v', σ', H'', J', rv, q⟩ := hs
    exact fin J' rv q
  | next =>
    obtain ⟨σ', H'', J', q⟩ := hs
    exact fin (v' := V.non) (u := Value.none) J' rfl q
  | brk =>
    obtain ⟨_, _, _, q⟩ := hs
    exact False.elim q
  | cont =>
    obtain ⟨_, _, _, q⟩ := hs
    exact False.elim q
theorem base_ok {q0 q1 q2 q3 q4 q5 t0 t1 t2 t3 t4 t5 t6 t7 : Pos} {k j : Nat} {nm : Str} (hq : (q2.endLine == q4.line) = true) (F : SupF P K f D cda cc name qual p0 params body sc dV kV doc pm ct an) (S : InS p0 p1 sc) (hm : mg "super" = none)
    (h0 : (p0 == ("__debug__" : Str)) = false ∧ (p0 == ("__classdict__" : Str)) = false) (h1 : (p1 == ("__debug__" : Str)) = false ∧ (p1 == ("__classdict__" : Str)) = false)
    (hbd : body = [.Expr (.Call (.Attribute (.Call (.Name "super" q0) [] [] q1) "__init__" q2) [.Name p1 q3] [] q4) q5, .Assign [.Attribute (.Name p0 t0) "place" t1] (.Name p1 t2) t3, .Assign [.Attribute (.Name p0 t4) "name" t5] (.Constant (.str nm) j t6) t7]) :
    FnOk P w K mg base C8.CX0 (k + 1) f (PySem.W.ksFn name qual params body sc dV kV doc pm an (.ref cda) ct cc) [p0, p1] (spB K D nm) := by
  refine ⟨fun vs H Q E ⟨a, C, v, h, _⟩ => by rw [h]; rfl, fun A outer s H args us vs Q E hr e0 hb r hsp => ?_⟩
  obtain ⟨a, C, v, rfl, ha, T, hno, q⟩ := hsp
  obtain ⟨u0, us', rfl, r0, r'⟩ : ∃ u0 us', us = u0 :: us' ∧ RelV (.ref a) u0 ∧ Vals [v] us' := by cases r with | cons h t => exact ⟨_, _, rfl, h, t⟩
  obtain ⟨u1, rfl, r1⟩ : ∃ u1, us' = [u1] ∧ RelV v u1 := by cases r' with | cons h t => cases t; exact ⟨_, rfl, h⟩
  refine run_sup F S hbd hr e0 hb r0 r1 fun s1 Q' I hQ => ?_
  refine sup_VE hq F S hm T h1 I ha fun s' J => hQ s' H J ⟨_, pss_cons (ps_ost (f := "place") (pe_var (i := 0) rfl (.inl S.l0) h0.1 h0.2) (pe_var (i := 1) rfl (.inl S.l1) h1.1 h1.2)) (pss_one (ps_ost (f := "name") (pe_var (i := 0) rfl (.inl S.l0) h0.1 h0.2) pe_str)), ?_⟩
  refine ⟨v, rfl, .ref a, rfl, a, C, rfl, T.oex, hno.1, .inl ⟨ha, fun dx n ne => ?_⟩⟩
  refine ⟨.ref a, rfl, a, C, rfl, T.oex, hno.2, .inr ⟨dx, [("place", v)], upd_same, ?_, by simp, q dx n ne⟩⟩
  rw [upd_ne ne, upd_same]
theorem leaf_ok {q0 q1 q2 q3 q4 q5 t4 t5 t6 t7 : Pos} {k j : Nat} {nm nm2 : Str} {g B : Addr} {fd : FuncData} {ps : List Str} (hq : (q2.endLine == q4.line) = true) (F : SupF P K f D cda cc name qual p0 params body sc dV kV doc pm ct an) (S : InS p0 p1 sc) (hm : mg "super" = none)
    (h0 : (p0 == ("__debug__" : Str)) = false ∧ (p0 == ("__classdict__" : Str)) = false) (h1 : (p1 == ("__debug__" : Str)) = false ∧ (p1 == ("__classdict__" : Str)) = false)
    (tg : PySem.W.typeIn K (.ref g) = some (.type "function")) (fg : PySem.W.fnIn K g = true) (G : FnOk P w K mg base C8.CX0 k g fd ps (spB K B nm)) (hb : L2.Binds K fd ps []) (hps : ps.length = 2)
    (hbd : body = [.Expr (.Call (.Attribute (.Call (.Name "super" q0) [] [] q1) "__init__" q2) [.Name p1 q3] [] q4) q5, .Assign [.Attribute (.Name p0 t4) "name" t5] (.Constant (.str nm2) j t6) t7]) :
    FnOk P w K mg base C8.CX0 (k + 1) f (PySem.W.ksFn name qual params body sc dV kV doc pm an (.ref cda) ct cc) [p0, p1] (spL K D g B nm nm2) := by
  refine ⟨fun vs H Q E ⟨a, C, v, h, _⟩ => by rw [h]; rfl, fun A outer s H args us vs Q E hr e0 hb' r hsp => ?_⟩
  obtain ⟨a, C, v, rfl, ha, T, TB, hno, q⟩ := hsp
  obtain ⟨u0, us', rfl, r0, r'⟩ : ∃ u0 us', us = u0 :: us' ∧ RelV (.ref a) u0 ∧ Vals [v] us' := by cases r with | cons h t => exact ⟨_, _, rfl, h, t⟩
  obtain ⟨u1, rfl, r1⟩ : ∃ u1, us' = [u1] ∧ RelV v u1 := by cases r' with | cons h t => cases t; exact ⟨_, rfl, h⟩
  refine run_sup F S hbd hr e0 hb' r0 r1 fun s1 Q' I hQ => ?_
  refine sup_own (R := fun H' => ∃ dx, H dx = none ∧ dx ≠ a ∧ H' = upd (upd (upd H dx (exd dx [("place", v)])) a (exo a C (some dx))) dx (exd dx [("name", .str nm), ("place", v)])) hq F S hm T h1 tg fg G hb hps (hr.deeper _) I ha
    ⟨a, C, v, rfl, ha, TB, hno, fun dx n ne => ⟨dx, n, ne, rfl⟩⟩ fun s' H' J hR => hQ s' H' J ⟨_, pss_one (ps_ost (f := "name") (pe_var (i := 0) rfl (.inl S.l0) h0.1 h0.2) pe_str), ?_⟩
  obtain ⟨dx, n, ne, rfl⟩ := hR
  refine ⟨.ref a, rfl, a, C, rfl, T.oex, hno.2, .inr ⟨dx, [("name", .str nm), ("place", v)], ?_, upd_same, by simp, q dx n ne⟩⟩
  rw [upd_ne (fun z => ne z.symm), upd_same]
end
end Ex2

/-! E, part 2: try with several clauses, each 'as n'. -/
namespace Ex2
open PySem PySem.Spec PyProof.Rows
open L2
abbrev Suite := Addr → Value → Option Addr → TS
/-- the ends of a clause's suite: its name (slot i) goes -/
def offN (i : Nat) (D : Ends) : Ends where
  nx := fun τ G => D.nx (τ.set i none) G
  rt := D.rt
  bk := fun τ G => D.bk (τ.set i none) G
  ct := fun τ G => D.ct (τ.set i none) G
def wAll (K : PySem.W.Frag) (i : Nat) (Wo : WX) (D : Ends) : List (Value × Suite) → WX
  | [] => Wo
  | p :: r => fun cls d τ G => ∃ b, PySem.W.exmOne K cls p.1 = some b ∧ (b = true → ∀ e, G e = none → i < τ.length → p.2 e cls d (offN i D) (τ.set i (some (.ref e))) G) ∧ (b = false → wAll K i Wo D r cls d τ G)
inductive Clauses (X : Cx) (n : Str) : List ExceptHandler → List (Value × Suite) → Prop
  | nil : Clauses X n [] []
  | cons {x : Str} {c : Value} {t : Suite} {st : Stmt} {sts : List Stmt} {q q' : Pos} {hs : List ExceptHandler} {l : List (Value × Suite)} (hc : Names X x c)
      (ht : ∀ (e : Addr) (oe : Obj) (cls : Value) (d : Option Addr) (pn : List (Addr × Obj)), Zc cls d oe → (∃ vs, oe.data = .fields vs) → PSs (X.suite e ((e, oe) :: pn)) (st :: sts) (t e cls d)) (r : Clauses X n hs l) :
      Clauses X n (.ExceptHandler (some (.Name x q)) (some n) (st :: sts) q' :: hs) ((c, t) :: l)
section
variable {X : Cx} {n : Str} {i : Nat} {body : List Stmt} {c0 : ExceptHandler} {cs : List ExceptHandler} {l : List (Value × Suite)} {pos : Pos} {tb : WX → TS} {Wo : WX}
theorem ps_try_all (h1 : X.stack = X.env :: X.outer) (h2 : X.env.frame = some X.env.locals) (hN : X.N.Nodup) (hi : X.N[i]? = some n) (hn : X.env.kindOf n = some .local) (tk : Takes X Wo)
    (hb : ∀ (W : WX) (pn : List (Addr × Obj)) (xe : Value → Shared → Prop), Takes (X.tr pn xe) W → PassesOwn (model X.prog X.w) X.A X.env xe → PSs (X.tr pn xe) body (tb W))
    (hh : Clauses X n (c0 :: cs) l) : PS X (.Try body (c0 :: cs) [] [] pos) (fun D σ H => tb (wAll X.K i Wo D l) D σ H) := by
  refine ⟨fun pins s σ H D I h => ?_⟩
  have lc : Loc X.env.scope n := .inl hn
  have fr : X.A.frames = some (X.env :: X.outer) := I.ok.frames.trans (by rw [h1])
  have run := fun xe tk' po => (hb (wAll X.K i Wo D l) (X.pn ++ pins) xe tk' po).run [] s σ H D (I.toTry _) h
  refine wpAny_Try_except (wpAny_mono (run (fun u s₁ => wpAny (model X.prog X.w) X.A (noteFrame u X.env) (fun _ s₂ => wpAny (model X.prog X.w) X.A (setFlight u none) (fun _ s₃ => wpAny (model X.prog X.w) X.A (handleBy u X.env (c0 :: cs)) (SP X pins D) X.xe s₃) X.xe s₂) X.xe s₁) (fun u z xx => ?_) PassesOwn.looking) (fun f z hz => ?_) fun _ _ z => z)
  · obtain ⟨e, gr, sB, pins2, τ, G, cls, d, rfl, J2, nb, up, sky, ne, eo, ab, want⟩ := xx
    have J : Inv X pins τ G sB := J2.ofTry I.ok
    show wpAny (model X.prog X.w) X.A (noteFrame (.ref e) X.env) _ _ _
    refine Sky.land Zc.steady fr h2 (h1 ▸ sky) fun hA flA upA => ?_
    have JA : Inv X pins τ G { z with heap := hA } := J.landed nb flA.1 (up.trans upA) eo ab
    obtain ⟨oA, vA, geA, zA, dA⟩ := flA.there
    have far : e ∉ frs (X.env :: X.outer) := fun hm => by
      obtain ⟨_, o', e', no⟩ := flA.2.2.1.mem hm
      rw [geA] at e'
      cases e'
      exact no _ dA
    have farL : e ≠ X.env.locals := fun y => far (List.mem_filterMap.mpr ⟨X.env, .head _, by rw [h2, y]⟩)
    have farF : e ∉ X.fs := fun hm => by
      obtain ⟨v, hv, y⟩ := List.mem_filterMap.mp hm
      exact far (List.mem_filterMap.mpr ⟨v, .tail _ hv, y⟩)
    have SA := JA.suite geA dA ne farL farF
    have go : ∀ {hs : List ExceptHandler} {l' : List (Value × Suite)}, Clauses X n hs l' → wAll X.K i Wo D l' cls d τ G → wpAny (model X.prog X.w) X.A (handleBy (.ref e) X.env hs) (SP X pins D) X.xe { z with heap := hA } := by
      intro hs l' k
      induction k with
      | nil =>
        intro w
        refine wpAny_handleBy_nil ?_
        obtain ⟨_, _, _, oe, vs, T, _, _, g1, _, g3, g4, _⟩ := id flA
        unfold PySem.passOn
        refine wpAny_bind (wpAny_field g1 g3 g4 ?_)
        rw [if_neg (show ¬ ((Value.ref T == Value.none) = true) by simp)]
        have away : wpAny (model X.prog X.w) X.A (setFlight (.ref e) X.env.frame) (fun _ z' => wpAny (model X.prog X.w) X.A (throw (.ref e) : Sem PySem.Flow) (SP X pins D) X.xe z') X.xe { z with heap := hA } := by
          rw [h2]
          exact HandSPX.setFlight_upZ flA fun hB held upB => wpAny_throw (tk _ _ ⟨e, gr, sB, pins, τ, G, cls, d, rfl, J, nb, (up.trans upA).trans upB, .inr (.inr (by rw [h1]; exact held)), ne, eo, ab, w⟩)
        first
          | exact wpAny_bind (wpAny_pure (wpAny_bind away))
          | exact wpAny_bind away
      | @cons x c t st sts q q' hs2 l2 hc ht r ih =>
        intro w
        obtain ⟨b, hb1, yes, no⟩ := w
        refine wpAny_handleBy_cons (codeAny_handlers_test ?_) (by intro q; cases q)
        have ty : PySem.W.Looks (model X.prog X.w) hA (typeOf (.ref e)) cls := fun B Q E s k q => wpAny_typeOf_ref (k _ _ geA) (by rw [zA.1]; exact q)
        have fits := PySem.W.exm_one (M := model X.prog X.w) JA.kIn ty hb1
        have named : ∀ {Q : Value → Shared → Prop} {E : Value → Shared → Prop}, Q c { z with heap := hA } → wpAny (model X.prog X.w) (X.A.mark (some (.ref e))) (eval (.Name x q) X.env) Q E { z with heap := hA } := fun {Q E} y => by
          obtain ⟨k1, k2, k3 | ⟨k3, k4, k5⟩⟩ := hc
          · exact ld_glob (X := X.suite e ((e, oA) :: (X.pn ++ pins))) SA k1 k3 y k2
          · exact ld_blt (X := X.suite e ((e, oA) :: (X.pn ++ pins))) SA k1 k3 k4 y k5 k2
        refine named (fits.here ?_)
        cases b with
        | false =>
          show wpAny _ X.A (handleBy (.ref e) X.env hs2) _ _ _
          exact ih (no rfl)
        | true =>
          refine codeAny_handlers_suite_as (HandSPX.lands_againZ flA fun hB flB upB => ?_)
          have JB : Inv X pins τ G { z with heap := hB } := J.landed nb flB.1 ((up.trans upA).trans upB) eo ab
          obtain ⟨oB, vB, geB, zB, dB⟩ := flB.there
          refine store_ok (X := X.suite e ((e, oB) :: (X.pn ++ pins))) (v := .ref e) (JB.suite geB dB ne farL farF) hN hi lc rfl (fun y SB => ?_) (.inr hn)
          refine wpAny_mono ((ht e oB cls d (X.pn ++ pins) zB ⟨_, dB⟩).run [] y _ G _ SB (yes rfl e ne (J.len ▸ (List.getElem?_eq_some_iff.mp hi).1))) (fun f z6 hf => ?_) (fun _ _ z => False.elim z)
          have shut : ∀ {τ6 : L2.St} {G6 : Hp} {Q : Shared → Prop}, Inv (X.suite e ((e, oB) :: (X.pn ++ pins))) [] τ6 G6 z6 → (∀ z7, Inv X pins (τ6.set i none) G6 z7 → Q z7) → wpAny (model X.prog X.w) X.A (do bindName X.env n .none; unbindBehindTheSuite X.env n q') (fun _ z7 => Q z7) X.xe z6 :=
            fun {τ6 G6 Q} S6 hq => gone_ok (S6.unsuite I.ok) hN hi hn hq
          cases f with
          | next =>
            obtain ⟨_, _, S6, q6⟩ := hf
            exact shut S6 fun _ J7 => ⟨_, _, J7, q6⟩
          | brk =>
            obtain ⟨_, _, S6, q6⟩ := hf
            exact shut S6 fun _ J7 => ⟨_, _, J7, q6⟩
          | cont =>
            obtain ⟨_, _, S6, q6⟩ := hf
            exact shut S6 fun _ J7 => ⟨_, _, J7, q6⟩
          | ret u =>
            obtain ⟨_, _, _, S6, r6, q6⟩ := hf
            exact shut S6 fun _ J7 => ⟨_, _, _, J7, r6, q6⟩
    exact go hh want
  · cases f with
    | next =>
      obtain ⟨τ, G, J2, q⟩ := hz
      exact wpAny_execs_nil ⟨τ, G, J2.ofTry I.ok, q⟩
    | brk =>
      obtain ⟨τ, G, J2, q⟩ := hz
      exact ⟨τ, G, J2.ofTry I.ok, q⟩
    | cont =>
      obtain ⟨τ, G, J2, q⟩ := hz
      exact ⟨τ, G, J2.ofTry I.ok, q⟩
    | ret u =>
      obtain ⟨v, τ, G, J2, r, q⟩ := hz
      exact ⟨v, τ, G, J2.ofTry I.ok, r, q⟩
end
end Ex2

/-! Vi, part L0: a lambda without parameters, handed to a def that calls it and catches what is raised. -/
namespace Vi
open PySem PySem.Spec PyProof.Rows
open L2
variable [Wx]
section
variable {K : PySem.W.Frag} {H H1 : Hp} {σ : L2.St} {en : En} {φ : Fp}
theorem fzS_extN (e : LamX.ExtN H H1) : FzS H H1 := fun a o h f => e a o h (fz_nT f)
theorem env_extN (ok : EnvOk K H σ en φ) (e : LamX.ExtN H H1) (t : LamX.Tabs Wx.tabs H1) : EnvOk K H1 σ en φ :=
  ⟨ok.len, fun j => slotOk_mono (ok.slot j) (fzS_extN e) fun a _ u i h => e a u h (ow_nT i), ok.dis, t⟩
theorem evo_extN {O : Addr → Prop} (e : LamX.ExtN H H1) (t : LamX.Tabs Wx.tabs H1) : Evo H O H1 := ⟨fun a o _ k h => e a o h k, fzS_extN e, fun _ => t⟩
theorem env_mask (ok : EnvOk K H σ en φ) : EnvOk K H σ (maskE en) noFp := by
  refine ⟨by simpa [maskE] using ok.len, fun j => ?_, fun _ _ _ z => (nomatch z), ok.tb⟩
  rw [getS_mask]
  have q := ok.slot j
  cases e : getS en j with
  | fz d =>
    rw [e] at q
    exact ⟨q.1, rfl⟩
  | _ => exact rfl
/-- where nothing of one's own was written, all stands -/
theorem env_evo0 (ok : EnvOk K H σ en φ) (e : Evo H (Own noFp) H1) : EnvOk K H1 σ en φ :=
  ⟨ok.len, fun j => slotOk_mono (ok.slot j) e.fz fun a _ u i h => e.keep a u (noFp_own a) (ow_nT i) h, ok.dis, e.tb ok.tb⟩
end
/-- what the def makes of the answer -/
def akV : AK → V → List V
  | .pair s, v => [.str s, v]
  | .unit s, _ => [.str s, .non]
def akQ (ak : AK) (Q : VK) : VK := fun v H1 => (akV ak v).length ≤ sizeLine ∧ ∀ p, H1 p = none → Q (.ref p) (upd H1 p (.tup (akV ak v)))
/-- the lambda's answer, and what is raised, as the def that asks tells it -/
def TTw (K : PySem.W.Frag) (ak : AK) (hs : List (List Nat × HR)) : (XK → Hp → VK → Prop) → Hp → VK → Prop := fun tl H Q =>
  ∃ Ech : XK, tl Ech H (akQ ak Q) ∧ ∀ cls d H', Ech cls d H' → LamX.Tabs Wx.tabs H' ∧ ∃ c p hr, ExcAt K H' cls d c p ∧ findH c hs = some hr ∧ ∀ v' H2, Same H' H2 → Rep K H2 v' (hrD hr p) → Q v' H2
/-- the def x calls what it gets, and catches -/
def AskOk (P : Program) (w : World) (K : PySem.W.Frag) (mg : Str → Option Value) (base : Heap) (x : Str) (ak : AK) (hs : List (List Nat × HR)) : Prop :=
  (x == ("__debug__" : Str)) = false ∧ ∃ (g : Addr) (oc : Value) (od : Option Addr) (pg : Arguments) (bg : List Stmt) (sg : Scope) (dV kV doc pm cdv ct : Value) (an : Option Addr) (osl : Array (Option Value)) (Ng : List Str) (a : Str),
    mg x = some (.ref g) ∧ PySem.W.keepIn K (.ref g) = true ∧ K.lookup g = some ⟨oc, od, .func (PySem.W.fnOf x x pg bg sg dV kV doc pm an cdv ct), osl⟩ ∧ PySem.W.codeIn K cdv x = true ∧ L2.Binds K (PySem.W.fnOf x x pg bg sg dV kV doc pm an cdv ct) [a] [] ∧
    FnScope Ng [a] sg ∧ Ng[0]? = some a ∧ Vis sg a ∧ (a == ("__debug__" : Str)) = false ∧ (a == ("__classdict__" : Str)) = false ∧
    ∀ (X : Cx) (q : Str), X.prog = P → X.w = w → X.K = K → X.mg = mg → X.base = base → LamX.GivesTo X Ng x sg g cdv bg a q (TTw K ak hs)
/-- the def of X makes lambdas -/
def LamAt (X : Cx) : Prop := ∃ c P, X.env.code = .ref c ∧ LamX.TabB X.base X.mg c P ∧ (P, X.env.qual ++ "<lambda>") ∈ Wx.tabs ∧ ∀ p ∈ Wx.tabs, p.1 = P → p.2 = X.env.qual ++ "<lambda>"
section
variable {X : Cx} {P : Tb} {G : List D} {pos p : Pos}
/-- what is asked: a call in the lambda's body; t: its reading -/
theorem ask_core {x : Str} {ak : AK} {hs : List (List Nat × HR)} {co : Option Nat} {f : Nat} {es : Exs} {σ : L2.St} {H : Hp} {Q : VK} {t : XK → TE}
    (ht : ∀ (E : XK) (H1 : Hp) (Q' : VK) (en : En) (φ : Fp) (ds : List D) (e1 : En), EnvOk X.K H1 σ en φ → evs P G es en = .ok (ds, e1) → (∀ i, getS en i = .no ∨ ∃ d, getS en i = .fz d) →
      ((∃ d os, P f (ofC co ++ ds.map .fz) = .ok (d, os) ∧ ∀ v H', Evo H1 (Own φ) H' → Rep X.K H' v d → Q' v H') ∨ ∃ c p, P f (ofC co ++ ds.map .fz) = .exc c p ∧ ∀ cls d H', ExcAt X.K H' cls d c p → Evo H1 (Own φ) H' → E cls d H') → t E σ H1 Q')
    (h : tE X.K P G (.asked x ak hs co f es) σ H Q) : LamX.tLam Wx.tabs (TTw X.K ak hs) t σ H Q := by
  obtain ⟨en, φ, ok, d, en', he, q⟩ := h
  unfold ev at he
  obtain ⟨⟨ds, e1⟩, f1, he1⟩ := Res.bind_ok he
  obtain ⟨r, f2, he2⟩ := Res.bind_ok he1
  cases he2
  refine ⟨ok.tb, fun H1 eN t1 => ?_⟩
  have ok1 := env_extN ok eN t1
  have fin : ∀ v' H2 H3, Evo H1 (Own noFp) H2 → Same H2 H3 → Rep X.K H3 v' d → Q v' H3 := fun v' H2 H3 e s r => by
    have ok3 := (env_evo0 ok1 e).mono s
    have ev3 : Evo H (Own φ) H3 := ((evo_extN eN t1).trans' (e.sub fun b z => absurd z (noFp_own b))).trans' (.of s)
    exact q v' H3 ok3 ev3 r
  have hm : ∀ i, getS (maskE en) i = .no ∨ ∃ d, getS (maskE en) i = .fz d := fun i => by
    rw [getS_mask]
    cases getS en i <;> first | exact .inl rfl | exact .inr ⟨_, rfl⟩
  unfold askR at f2
  cases hr : P f (ofC co ++ ds.map .fz) with
  | ok a =>
    rw [hr] at f2
    cases f2
    obtain ⟨d0, os⟩ := a
    refine ⟨fun _ _ _ => False, ht _ H1 _ _ noFp ds e1 (env_mask ok1) f1 hm (.inl ⟨d0, os, hr, fun v H2 ev2 rv => ⟨by cases ak <;> (show (2 : Nat) ≤ sizeLine; rw [sizeLine_eq]; decide), fun p hp => fin (.ref p) H2 _ ev2 (same_upd hp) (by
      cases ak with
      | pair s => exact rep_newT hp (.cons (.str s) (.cons rv .nil))
      | unit s => exact rep_newT hp (.cons (.str s) (.cons .non .nil)))⟩⟩), fun _ _ _ z => z.elim⟩
  | exc c p =>
    rw [hr] at f2
    dsimp only at f2
    cases hh : findH c hs with
    | none => rw [hh] at f2; cases f2
    | some k =>
      rw [hh] at f2
      cases f2
      refine ⟨fun cls d H' => ExcAt X.K H' cls d c p ∧ Evo H1 (Own noFp) H', ht _ H1 _ _ noFp ds e1 (env_mask ok1) f1 hm (.inr ⟨c, p, hr, fun cls d H' a b => ⟨a, b⟩⟩), fun cls dd H' ⟨x1, x2⟩ => ⟨x2.tb t1, c, p, k, x1, hh, fun v' H2 s rv => fin v' H' H2 x2 s rv⟩⟩
  | bad => rw [hr] at f2; cases f2
/-- no parameters -/
def noPs : Arguments → Bool
  | ⟨[], [], none, [], [], none, []⟩ => true
  | _ => false
/-- x(lambda: body) -/
theorem peAsk {k : Nat} {x : Str} {ak : AK} {hs : List (List Nat × HR)} {co : Option Nat} {f : Nat} {es : Exs} {params : Arguments} {body : Expr} {scope : Scope} {lpos : Pos} {t : XK → TE} (hA : AskOk X.prog X.w X.K X.mg X.base x ak hs) (hL : LamAt X) (hg : Gl X x) (hr : Room (k + 2) X.A) (hps : noPs params = true)
    (hsc : LamX.lamSB X.env.scope scope = true) (hbody : ∀ (A : Around) (outer : List Env) (s : Shared) (H : Hp) (E : XK) (f' c' : Addr), Room k (A.deeper (LamX.lamEnv X scope s.heap.objs.size f' c')) → PE (LamX.lamCx X A outer s H E scope f' c') body (t E))
    (ht : ∀ (E : XK) (σ : L2.St) (H1 : Hp) (Q' : VK) (en : En) (φ : Fp) (ds : List D) (e1 : En), EnvOk X.K H1 σ en φ → evs P G es en = .ok (ds, e1) → (∀ i, getS en i = .no ∨ ∃ d, getS en i = .fz d) →
      ((∃ d os, P f (ofC co ++ ds.map .fz) = .ok (d, os) ∧ ∀ v H', Evo H1 (Own φ) H' → Rep X.K H' v d → Q' v H') ∨ ∃ c p, P f (ofC co ++ ds.map .fz) = .exc c p ∧ ∀ cls d H', ExcAt X.K H' cls d c p → Evo H1 (Own φ) H' → E cls d H') → t E σ H1 Q') :
    PE X (.Call (.Name x p) [.Lambda params body scope lpos] [] pos) (tE X.K P G (.asked x ak hs co f es)) := by
  obtain ⟨hdb, g, oc, od, pg, bg, sg, dV, kV, doc, pm, cdv, ct, an, osl, Ng, a, h1, h2, h3, h4, h5, h6, h7, h8, h9, h10, hG⟩ := hA
  obtain ⟨c, Pt, l1, l2, l3, l4⟩ := hL
  unfold noPs at hps
  split at hps
  · exact peImp (LamX.pe_lamcall hg h1 h2 h3 h4 h5 h6 h7 h8 (hG X _ rfl rfl rfl rfl rfl) l2 l1 l3 l4 hr (LamX.lamS_by hsc) rfl (fun _ _ _ _ _ => rfl) hbody hdb h9 h10) fun σ H Q h => ask_core (fun E H1 Q' en φ ds e1 => ht E σ H1 Q' en φ ds e1) h
  · cases hps
theorem lentN : ∀ {es : Exs}, noB es = true → lentAt es = List.replicate (exsLen es) none
  | .nil, _ => rfl
  | .cons e es, h => by
    unfold noB at h
    rw [Bool.and_eq_true] at h
    have ih := lentN h.2
    cases e <;> first
      | (simp [isB] at h; done)
      | (show none :: lentAt es = _; rw [ih]; rfl)
theorem argsN (en : En) : ∀ (n : Nat) (ds : List D), ds.length = n → argsOf en (List.replicate n none) ds = some (ds.map .fz)
  | 0, [], _ => rfl
  | n + 1, d :: ds, h => by
    show (argsOf en (List.replicate n none) ds).map _ = _
    rw [argsN en n ds (by simpa using h)]; rfl
  | 0, _ :: _, h => by simp at h
  | _ + 1, [], h => by simp at h
theorem evs_lenN {P : Tb} {G : List D} : ∀ (xs : Exs) (en en' : En) (ds : List D), evs P G xs en = .ok (ds, en') → ds.length = exsLen xs
  | .nil, en, en', ds, h => by unfold evs at h; cases h; rfl
  | .cons e es, en, en', ds, h => by
    unfold evs at h
    obtain ⟨⟨r, e1⟩, _, h1⟩ := Res.bind_ok h
    obtain ⟨⟨q, e2⟩, h3, h2⟩ := Res.bind_ok h1
    cases h2
    exact congrArg (· + 1) (evs_lenN es _ _ _ h3)
theorem putN (os : List (List D)) (en : En) : ∀ n : Nat, putBack (List.replicate n none) os en = en
  | 0 => by unfold putBack; cases os <;> rfl
  | n + 1 => by
    show putBack (none :: List.replicate n none) os en = en
    unfold putBack; exact putN os en n
theorem lentOkN : ∀ n : Nat, lentOk (List.replicate n none) = true
  | 0 => rfl
  | n + 1 => by show lentOk (none :: List.replicate n none) = true; unfold lentOk; exact lentOkN n
/-- a call of a def in the body -/
theorem askF {k f n : Nat} {es : Exs} {E : XK} {σ : L2.St} {H1 : Hp} {Q' : VK} {en : En} {φ : Fp} {ds : List D} {e1 : En} (hP : ∀ sl r, P f sl = .ok r → sl.length = n ∧ r.2.length = ows sl) (hE : ∀ sl c p, P f sl = .exc c p → sl.length = n) (hb : noB es = true)
    (ok : EnvOk X.K H1 σ en φ) (f1 : evs P G es en = .ok (ds, e1))
    (h : (∃ d os, P f (ofC none ++ ds.map .fz) = .ok (d, os) ∧ ∀ v H', Evo H1 (Own φ) H' → Rep X.K H' v d → Q' v H') ∨ ∃ c p, P f (ofC none ++ ds.map .fz) = .exc c p ∧ ∀ cls d H', ExcAt X.K H' cls d c p → Evo H1 (Own φ) H' → E cls d H') :
    tCall (spF X.K P f n .dat) [] E (tA X.K P G es) σ H1 Q' := by
  have hl : lentOk (lentAt es) = true := by rw [lentN hb]; exact lentOkN _
  have f2 : argsOf e1 (lentAt es) ds = some (ds.map .fz) := by rw [lentN hb]; exact argsN e1 _ ds (evs_lenN es en e1 ds f1)
  refine call_coreX (k := k) (o := .dat) (by decide) hP hE hl ok f1 f2 ?_
  rcases h with ⟨d, os, e, q⟩ | ⟨c, p, e, q⟩
  · exact .inl ⟨d, os, e, fun v H' _ ev r => q v H' ev r⟩
  · exact .inr ⟨c, p, e, q⟩
/-- .. the making of an object -/
theorem askC {k c f n : Nat} {C : Addr} {ns : List Str} {es : Exs} {E : XK} {σ : L2.St} {H1 : Hp} {Q' : VK} {en : En} {φ : Fp} {ds : List D} {e1 : En} (hc : Wx.cls c = some (C, ns)) (hP : ∀ sl r, P f sl = .ok r → sl.length = n ∧ r.2.length = ows sl) (hE : ∀ sl c p, P f sl = .exc c p → sl.length = n) (hb : noB es = true)
    (ok : EnvOk X.K H1 σ en φ) (f1 : evs P G es en = .ok (ds, e1))
    (h : (∃ d os, P f (ofC (some c) ++ ds.map .fz) = .ok (d, os) ∧ ∀ v H', Evo H1 (Own φ) H' → Rep X.K H' v d → Q' v H') ∨ ∃ c' p, P f (ofC (some c) ++ ds.map .fz) = .exc c' p ∧ ∀ cls d H', ExcAt X.K H' cls d c' p → Evo H1 (Own φ) H' → E cls d H') :
    tMake C (spF X.K P f n .ini) [] E (tA X.K P G es) σ H1 Q' := by
  refine ⟨en, φ, ok, ds, e1, f1, fun vs H2 ok1 ev1 v1 => ?_⟩
  intro x dx hx hdx hne
  have r := vls_reps v1 hb
  have sm : Same H2 (upd (upd H2 dx (.own x)) x (.ins C dx [])) := fun b o e => by
    rw [upd_ne (fun z => by rw [z, hx] at e; cases e), upd_ne (fun z => by rw [z, hdx] at e; cases e)]
    exact e
  have no : ¬ Own φ x := fun z => by
    obtain ⟨u, e, _⟩ := ok1.own z
    rw [hx] at e; cases e
  have own : ∀ a, Own (fun j => if j = 0 then [x] else []) a → a = x := fun a ⟨j, hj⟩ => by
    replace hj : a ∈ (if j = 0 then [x] else []) := hj
    split at hj
    · exact List.mem_singleton.mp hj
    · cases hj
  have evo : ∀ H3, Evo (upd (upd H2 dx (.own x)) x (.ins C dx [])) (Own fun j => if j = 0 then [x] else []) H3 → Evo H1 (Own φ) H3 := fun H3 ev2 =>
    ⟨fun a o na k e => by
      have e1 := ev1.keep a o na k e
      exact ev2.keep a o (fun z => by rw [own a z, hx] at e1; cases e1) k (sm a o e1), (ev1.fz.trans (.of sm)).trans ev2.fz, fun t => ev2.tb (tabs_same (ev1.tb t) sm)⟩
  rw [List.append_nil]
  have hn : (Slot.slf c :: ds.map .fz).length = n := by
    rcases h with ⟨d, os, f3, _⟩ | ⟨c', p, f3, _⟩
    · exact (hP _ _ f3).1
    · exact hE _ _ _ f3
  refine ⟨by rw [← hn]; simp [r.length], .slf c :: ds.map .fz, fun j => if j = 0 then [x] else [], ⟨by simp [r.length], fun j => ?_, fun i j a hi hj => ?_, tabs_same ok1.tb sm⟩, ?_⟩
  · cases j with
    | zero => exact ⟨x, C, dx, ns, rfl, hc, upd_same, rfl⟩
    | succ j => exact fz_slots (r.mono (.of sm)) j
  · replace hi : a ∈ (if i = 0 then [x] else []) := hi
    replace hj : a ∈ (if j = 0 then [x] else []) := hj
    split at hi
    · split at hj
      · omega
      · cases hj
    · cases hi
  · rcases h with ⟨d, os, f3, q⟩ | ⟨c', p, f3, q⟩
    · refine .inl ⟨d, os, f3, fun v H3 rv _ ev2 => ?_⟩
      obtain ⟨rfl, p, hp, rp⟩ := rv
      cases hp
      exact ⟨rfl, q _ H3 (evo H3 ev2) rp⟩
    · exact .inr ⟨c', p, f3, fun cls dd H3 x1 ev2 => q cls dd H3 x1 (evo H3 ev2)⟩
end
end Vi

/-! Vi, part M0: a lambda of one parameter, called by a builtin (key=). -/
namespace Vi
open PySem PySem.Spec PyProof.Rows
open L2
section
variable {CX : CXT} {P : Program} {w : World} {K : PySem.W.Frag} {mg : Str → Option Value} {base : Heap}
abbrev lamF (q : Str) (params : Arguments) (scope : Scope) (cl : List (Str × Addr)) (c' : Addr) : NdefX.NF := ⟨"<lambda>", q, params, [], scope, cl, c'⟩
theorem lam_run {N fr : List Str} {a q : Str} {params : Arguments} {body : Expr} {scope : Scope} {cl : List (Str × Addr)} {c' f : Addr} {pm ctv : Value} {k : Nat} {A : Around} {outer : List Env} {s : Shared} {H : Hp} {u : Value} {v : V} {ws : List (Option V)} {Q : VK} {E : XK} {t : TE}
    (S : NdefX.NScope N [a] fr scope) (hb : bindArgs (PySem.W.kla_fn "<lambda>" q params body scope cl pm (.ref c') ctv) ⟨[u], []⟩ = pure [(a, u)]) (hr : Room (k + 1) A) (e0 : Env0 P w K mg base A outer s H)
    (of1 : s.heap.get? f = some (PySem.W.kla_obj "<lambda>" q params body scope cl pm c' ctv)) (hc : H c' = some (LamX.CodeO c' q)) (C : NdefX.CellsAt cl fr ws s.heap H) (rv : L2.RelV v u)
    (hbody : PE (NdefX.ncx CX P w K mg base N (lamF q params scope cl c') f A outer s H E) body t) (ht : t (NdefX.startF N [v] ws) H Q) :
    codeAny (model P w) A (.call (.ref f) ⟨[u], []⟩) (CR CX outer P w H s Q E) s := by
  have lim : s.heap.NoLimit := e0.mod.nolimit.keeps fun b o e => (e0.bs b o e).1
  obtain ⟨⟨oc, vs, t1, hoc, hdc, hvc⟩, _, _⟩ := e0.hok c' _ hc
  refine PySem.W.kla_callFunE hr.depth of1 rfl S.co S.gen rfl ⟨c', oc, vs, t1, rfl, hoc, hdc, hvc⟩ ?_
  rw [hb]
  refine wpAny_pure (wpAny_newFunctionEnv S.nocell (fun y hy => S.par y.1 (by rw [List.mem_singleton.mp hy]; exact List.mem_singleton.mpr rfl)) (fun h₁ hns hsb => ⟨lim.fresh _ hsb, ?_⟩) S.kind)
  show codeAny _ _ (.expr body (NdefX.envF (lamF q params scope cl c') f s.heap.objs.size)) _ _
  have kp : ∀ b o, s.heap.get? b = some o → h₁.get? b = some o := fun b o e => hsb.extBut b o (Nat.ne_of_lt (Heap.lt_size e)) (Heap.get?_push_of_some _ e)
  have J : Inv (NdefX.ncx CX P w K mg base N (lamF q params scope cl c') f A outer s H E) [] (NdefX.startF N [v] ws) H { s with heap := h₁, toks := s.toks + [(a, u)].length } :=
    NdefX.inv_startN (ps := [a]) (us := [u]) (vs := [v]) S hr.hd e0 rfl (.cons rv .nil) C hns kp
  refine PySem.W.kla_codeExpr (wpAny_mono (hbody.run [] _ _ H Q J ht) (fun v s' hq => ?_) fun e s' hq => hq)
  obtain ⟨w', H', J', rv, q⟩ := hq
  exact ⟨w', H', J'.os, J'.bare, J'.base, J'.hok, rv, q⟩
end
end Vi

/-! Vi, part M1: max(.., key=f), what stands told turn by turn: the best so far and its key in one promise. -/
namespace Vi
open PySem PySem.Spec PyProof.Rows
section
variable {prog : Program} {w : World} {A : Around} {R : Result → Shared → Prop} {I S fq : Addr} {fp wr : List Addr} {G : Array GenState → Array GenState → Prop} {n : Nat} {P : Nat → Value → Prop} {St : Nat → Shared → Prop}
/-- JJ j b kb: so many turns, the best and its key; JK: .. and the next one's key -/
structure Turns (prog : Program) (w : World) (A : Around) (fq : Addr) (op : CmpOp) (S : Addr) (wr : List Addr) (G : Array GenState → Array GenState → Prop) (n : Nat) (P : Nat → Value → Prop) (St : Nat → Shared → Prop) (J0 : Shared → Prop) (JJ : Nat → Nat → Value → Shared → Prop) (JK : Nat → Nat → Value → Value → Shared → Prop) : Prop where
  keep0 : ∀ s s', J0 s → Moved (S :: wr) G s s' → J0 s'
  keep : ∀ j b kb s s', JJ j b kb s → Moved (S :: wr) G s s' → JJ j b kb s'
  first : ∀ v (s : Shared) (o : Obj) (Q : Value → Shared → Prop) (E : Value → Shared → Prop), P 0 v → J0 s → St 1 s → s.heap.get? S = some o → (∀ c, o.data ≠ .cell c) → (∀ k s', JJ 1 0 k s' → St 1 s' → s'.heap.get? S = some o → Q k s') → wpAny (model prog w) A (call (.ref fq) [v]) Q E s
  turn : ∀ j b kb v (s : Shared) (o : Obj) (Q : Value → Shared → Prop) (E : Value → Shared → Prop), j < n → P j v → JJ j b kb s → St (j + 1) s → s.heap.get? S = some o → (∀ c, o.data ≠ .cell c) → (∀ k s', JK j b kb k s' → St (j + 1) s' → s'.heap.get? S = some o → Q k s') → wpAny (model prog w) A (call (.ref fq) [v]) Q E s
  cmp : ∀ j b kb k (s : Shared) (Q : Value → Shared → Prop) (E : Value → Shared → Prop), JK j b kb k s → (∀ r : Bool, JJ (j + 1) (if r = true then j else b) (if r = true then k else kb) s → Q (.bool r) s) → wpAny (model prog w) A (richCompare op k kb) Q E s
variable {J0 : Shared → Prop} {JJ : Nat → Nat → Value → Shared → Prop} {JK : Nat → Nat → Value → Value → Shared → Prop}
abbrev bestObj (vb kb : Value) (c : Nat) : Obj := { cls := .type "list", dict := none, data := .seq #[vb, kb] c, slots := #[] }
theorem upd_moved {s : Shared} {f : Obj → Obj} (hg : G s.gens s.gens) : Moved (S :: wr) G s { s with heap := s.heap.update S f, toks := s.toks } :=
  ⟨fun b o hb e => (Heap.get?_update_other _ _ fun z : S = b => hb (by rw [z]; exact List.mem_cons_self)).trans e, hg, rfl, rfl, Nat.le_refl _⟩
theorem max_on (W : WalksS prog w A.in1 I fp wr G n P St) (hSf : S ∉ fp) (T : Turns prog w A.in1 fq .Gt S wr G n P St J0 JJ JK) (kw : List (Str × Value)) :
    ∀ (k j : Nat) (s : Shared) (b : Nat) (vb kb : Value) (c : Nat), n - j = k → j ≤ n → JJ j b kb s → St j s → P b vb → s.heap.get? S = some (bestObj vb kb c) → (∀ v b kb s', P b v → JJ n b kb s' → R (.ok (.ret v)) s') →
      codeAny (model prog w) A (.builtin "max.loop" ⟨[.ref I, (.ref fq), .ref S], kw⟩) R s := by
  have hSw : S ∉ wr := fun h => hSf (W.sub _ h)
  have hsub : ∀ b ∈ wr, b ∈ S :: wr := fun b hb => List.mem_cons_of_mem _ hb
  have hname : (toString "max" ++ toString ".loop" : String) = "max.loop" := by decide
  intro k
  induction k with
  | zero =>
    intro j s b vb kb c hk hj hJ hst hP hS hR
    have hjn : j = n := by omega
    subst hjn
    refine codeAny_builtin F.entry_max_loop ?_
    rw [Around.under_plainId F.plain_max_loop _]
    show wpAny _ A.in1 (seqItems? (.ref S) >>= _) _ _ s
    refine wpAny_bind (wpAny_seqItems hS rfl ?_)
    show wpAny _ A.in1 (tryCatch (pyNext (.ref I)) _ >>= _) _ _ s
    refine wpAny_bind (wpAny_tryCatch (W.done s _ _ hst fun s' hm => ?_))
    have hS' := hm.heap S _ hSw hS
    show wpAny _ A.in1 (updateSeq S (fun _ => #[]) >>= _) _ _ _
    refine wpAny_bind (wpAny_updateSeq hS' rfl (wpAny_bind (wpAny_letGo (wpAny_pure ?_))))
    exact hR vb b kb _ hP (T.keep _ _ _ _ _ (T.keep _ _ _ _ _ hJ (hm.mono hsub)) (upd_moved (W.grefl _)))
  | succ k ih =>
    intro j s b vb kb c hk hj hJ hst hP hS hR
    have hlt : j < n := by omega
    refine codeAny_builtin F.entry_max_loop ?_
    rw [Around.under_plainId F.plain_max_loop _]
    show wpAny _ A.in1 (seqItems? (.ref S) >>= _) _ _ s
    refine wpAny_bind (wpAny_seqItems hS rfl ?_)
    show wpAny _ A.in1 (tryCatch (pyNext (.ref I)) _ >>= _) _ _ s
    refine wpAny_bind (wpAny_tryCatch (W.item j s _ _ hlt hst fun v s' hP' hst' hm => ?_))
    have hS' := hm.heap S _ hSw hS
    have hJ' := T.keep _ _ _ _ _ hJ (hm.mono hsub)
    show wpAny _ A.in1 (tryCatch (holding [v] (call (.ref fq) [v])) _ >>= _) _ _ _
    refine wpAny_bind (wpAny_tryCatch (wpAny_holding (T.turn j b kb v s' _ _ _ hlt hP' hJ' hst' hS' (fun _ z => nomatch z) fun kx s2 hJK hst2 hS2 => ?_)))
    show wpAny _ A.in1 (tryCatch (holding [v, kx] (richCompare .Gt kx kb >>= _)) _ >>= _) _ _ _
    refine wpAny_bind (wpAny_tryCatch (wpAny_holding (wpAny_bind (T.cmp j b kb kx s2 _ _ hJK fun r hJ2 => ?_))))
    refine wpAny_bind (wpAny_holding (wpAny_truthy_bool ?_))
    refine wpAny_bind (wpAny_letGo (wpAny_pure ?_))
    cases r with
    | true =>
      simp only [if_true] at hJ2 ⊢
      refine wpAny_bind (wpAny_updateSeq hS2 rfl (wpAny_bind (wpAny_letGo ?_)))
      rw [hname]
      have hm2 : Moved (S :: wr) G s2 { s2 with heap := s2.heap.update S (Obj.mapSeq fun _ => #[v, kx]), toks := s2.toks } := upd_moved (W.grefl _)
      refine wpAny_pure ⟨plainId_quiet F.plain_max_loop _, ih (j + 1) _ j v kx _ (by omega) (by omega) (T.keep _ _ _ _ _ hJ2 hm2) (W.frame _ s2 _ s2.toks hst2 (Nat.le_refl _) fun q hq o e => ?_) hP' (Heap.get?_update_self _ hS2 rfl) hR⟩
      exact (Heap.get?_update_other _ _ fun z : S = q => hSf (by rw [z]; exact hq)).trans e
    | false =>
      simp only [Bool.false_eq_true, if_false] at hJ2 ⊢
      refine wpAny_bind (wpAny_letGo ?_)
      rw [hname]
      exact wpAny_pure ⟨plainId_quiet F.plain_max_loop _, ih (j + 1) _ b vb kb c (by omega) (by omega) hJ2 hst2 hP hS2 hR⟩
theorem max_first (W : WalksS prog w A.in1 I fp wr G n P St) (hSf : S ∉ fp) (T : Turns prog w A.in1 fq .Gt S wr G n P St J0 JJ JK) (kw : List (Str × Value)) (hn : 0 < n) {s : Shared} {c : Nat} (hJ : J0 s) (hst : St 0 s)
    (hS : s.heap.get? S = some { cls := .type "list", dict := none, data := .seq #[] c, slots := #[] }) (hR : ∀ v b kb s', P b v → JJ n b kb s' → R (.ok (.ret v)) s') :
    codeAny (model prog w) A (.builtin "max.loop" ⟨[.ref I, (.ref fq), .ref S], kw⟩) R s := by
  have hSw : S ∉ wr := fun h => hSf (W.sub _ h)
  have hsub : ∀ b ∈ wr, b ∈ S :: wr := fun b hb => List.mem_cons_of_mem _ hb
  have hname : (toString "max" ++ toString ".loop" : String) = "max.loop" := by decide
  refine codeAny_builtin F.entry_max_loop ?_
  rw [Around.under_plainId F.plain_max_loop _]
  show wpAny _ A.in1 (seqItems? (.ref S) >>= _) _ _ s
  refine wpAny_bind (wpAny_seqItems hS rfl ?_)
  show wpAny _ A.in1 (tryCatch (pyNext (.ref I)) _ >>= _) _ _ s
  refine wpAny_bind (wpAny_tryCatch (W.item 0 s _ _ hn hst fun v s' hP' hst' hm => ?_))
  have hS' := hm.heap S _ hSw hS
  have hJ' := T.keep0 _ _ hJ (hm.mono hsub)
  show wpAny _ A.in1 (tryCatch (holding [v] (call (.ref fq) [v])) _ >>= _) _ _ _
  refine wpAny_bind (wpAny_tryCatch (wpAny_holding (T.first v s' _ _ _ hP' hJ' hst' hS' (fun _ z => nomatch z) fun kx s2 hJ2 hst2 hS2 => ?_)))
  show wpAny _ A.in1 (updateSeq S (fun _ => #[v, kx]) >>= _) _ _ _
  refine wpAny_bind (wpAny_updateSeq hS2 rfl ?_)
  rw [hname]
  have hm2 : Moved (S :: wr) G s2 { s2 with heap := s2.heap.update S (Obj.mapSeq fun _ => #[v, kx]), toks := s2.toks } := upd_moved (W.grefl _)
  refine wpAny_pure ⟨plainId_quiet F.plain_max_loop _, max_on W hSf T kw _ 1 _ 0 v kx _ rfl hn (T.keep _ _ _ _ _ hJ2 hm2) (W.frame _ s2 _ s2.toks hst2 (Nat.le_refl _) fun q hq o e => ?_) hP' (Heap.get?_update_self _ hS2 rfl) hR⟩
  exact (Heap.get?_update_other _ _ fun z : S = q => hSf (by rw [z]; exact hq)).trans e
/-- max(x, key=f) over what is walked -/
theorem max_key {x : Value} {s : Shared} {Q E : Value → Shared → Prop}
    (h : wpAny (model prog w) A.in1 (pyIter x) (fun it s₂ => ∃ I fp wr G n P St J0 JJ JK, it = .ref I ∧ WalksS prog w A.in1 I fp wr G n P St ∧ St 0 s₂ ∧ (∀ b ∈ fp, b < s₂.heap.objs.size) ∧ 0 < n ∧
      Turns prog w A.in1 fq .Gt s₂.heap.objs.size wr G n P St J0 JJ JK ∧ J0 s₂ ∧ ∀ v b kb s', P b v → JJ n b kb s' → Q v s') E s) :
    wpAny (model prog w) A (call (.builtin "max") [x] [(Str.ofString "key", .ref fq)]) Q E s := by
  have hname : (toString "max" ++ toString ".loop" : String) = "max.loop" := by decide
  refine PyProof.Rows.kmk_tree F.kind_max F.plain_max F.entry_max (PyProof.Rows.kmk_max_key _ _) ?_
  show wpAny _ A.in1 (Builtin.Builtins.bindParams "max" ["key", "default"] 0 ⟨[], [(Str.ofString "key", .ref fq)]⟩ >>= _) _ _ s
  refine wpAny_bind (wpAny_of_eq (show Builtin.Builtins.bindParams "max" ["key", "default"] 0 ⟨[], [(Str.ofString "key", .ref fq)]⟩ = pure [some (.ref fq), none] from rfl) ?_)
  refine wpAny_bind (wpAny_pure ?_)
  refine wpAny_bind (wpAny_mono h (fun it s₂ h₂ => ?_) fun _ _ e => e)
  obtain ⟨I, fp, wr, G, n, P, St, J0, JJ, JK, rfl, W, hst, hfp, hn, T, hJ, hQ⟩ := h₂
  refine wpAny_bind (wpAny_newObj_type ?_)
  have hSf : s₂.heap.objs.size ∉ fp := fun hm => Nat.lt_irrefl _ (hfp _ hm)
  rw [hname]
  have hm0 : Moved (s₂.heap.objs.size :: wr) G s₂ { s₂ with heap := s₂.heap.push { cls := .type "list", data := .seq #[] 0 }, toks := s₂.toks } := ⟨fun b o _ e => Heap.get?_push_of_some _ e, W.grefl _, rfl, rfl, Nat.le_refl _⟩
  have hst' := W.frame 0 s₂ (s₂.heap.push { cls := .type "list", data := .seq #[] 0 }) s₂.toks hst (Nat.le_refl _) fun b _ o e => Heap.get?_push_of_some _ e
  exact wpAny_pure ⟨plainId_quiet F.plain_max_loop _, max_first W hSf T _ hn (T.keep0 _ _ hJ hm0) hst' (Heap.get?_push_size _ rfl) hQ⟩
end
end Vi

/-! Vi, part M2: max(xs, key=lambda k: ..), xs a list that stays as it is. -/
namespace Vi
open PySem PySem.Spec PyProof.Rows
open L2
theorem inv_moved {X : Cx} {pins : List (Addr × Obj)} {σ : L2.St} {H : Hp} {s s' : Shared} {ch : List Addr} (I : Inv X pins σ H s) (hch : ∀ b ∈ ch, FpOk X pins H b) (m : Moved ch (fun a b => b = a) s s') : Inv X pins σ H s' := by
  obtain ⟨h', g', d', tk', os'⟩ := s'
  have e1 : g' = s.gens := m.gens
  have e2 : d' = s.drawn := m.drawn
  have e3 : os' = s.os := m.os
  subst e1 e2 e3
  have nin : ∀ b u, H b = some u → b ∉ ch := fun b u e z => by rw [(hch b z).1] at e; cases e
  refine I.step (g' := s.gens) (d' := s.drawn) (ch := ch) (fun b hb => ?_) (fun b o _ _ hc e _ => m.heap b o hc e) (fun b o _ _ hc e _ => ⟨o.slots, m.heap b o hc e⟩) (fun _ _ _ _ n => n)
    (fun b o hc e => ⟨o, m.heap b o hc e⟩) (fun _ _ e => e) (fun _ _ _ e => e) (fun b ps e => ⟨#[], by rw [e]; simp⟩) (fun m' hm => ?_) (fun b u e => ?_) I.bare
  · obtain ⟨_, h2, h3, h4, h5, h6⟩ := hch b hb
    exact ⟨h4, h2, h5, h6⟩
  · obtain ⟨o, es, ep, ho, r⟩ := hm
    exact ⟨o, es, ep, m.heap _ o (fun z => (hch _ z).2.1 rfl) ho, r⟩
  · refine (I.hok b u e).stay (fun c v hc q => m.heap c v ?_ q) (fun _ q => q) fun _ _ q => q
    rcases hc with z | z
    · rw [z]; exact nin b u e
    · exact nin c _ z
section
variable [Wx] {X : Cx}
def noO : Addr → Prop := fun _ => False
/-- all told stands, the two records are ours alone -/
structure KJ (X : Cx) (pins : List (Addr × Obj)) (σ : L2.St) (H : Hp) (S I : Addr) (H' : Hp) (s' : Shared) : Prop where
  inv : Inv X pins σ H' s'
  evo : Evo H noO H'
  S0 : FpOk X pins H' S
  I0 : FpOk X pins H' I
theorem KJ.keep {pins : List (Addr × Obj)} {σ : L2.St} {H H' : Hp} {S I : Addr} {s s' : Shared} (j : KJ X pins σ H S I H' s) (m : Moved (S :: [I]) (fun a b => b = a) s s') : KJ X pins σ H S I H' s' :=
  ⟨inv_moved j.inv (fun b hb => by
    rcases List.mem_cons.mp hb with rfl | hb
    · exact j.S0
    · rw [List.mem_singleton.mp hb]; exact j.I0) m, j.evo, j.S0, j.I0⟩
theorem fpOk_none {pins : List (Addr × Obj)} {H H' : Hp} {b : Addr} (h : FpOk X pins H b) (n : H' b = none) : FpOk X pins H' b := ⟨n, h.2⟩
variable {N fr : List Str} {a q : Str} {params : Arguments} {body : Expr} {scope : Scope} {cl : List (Str × Addr)} {c' f l : Addr} {pm ctv : Value} {k : Nat} {js : List Nat} {t : TE} {keys : List D} {ps : List PyData} {xs : List V}
/-- a turn: the lambda is asked for the j-th -/
theorem key_turn {pins : List (Addr × Obj)} {σ : L2.St} {H H' : Hp} {s' : Shared} {S I : Addr} {j : Nat} {u : Value} {v : V} {its : Array Value} {o : Obj} {Q E : Value → Shared → Prop}
    (hr : Room (k + 2) X.A) (hfp : ((f, PySem.W.kla_obj "<lambda>" q params body scope cl pm c' ctv) : Addr × Obj) ∈ pins) (hc : H c' = some (LamX.CodeO c' q)) (hcp : NdefX.Caps X cl fr js) (hS : NdefX.NScope N [a] fr scope)
    (hb : ∀ u, bindArgs (PySem.W.kla_fn "<lambda>" q params body scope cl pm (.ref c') ctv) ⟨[u], []⟩ = pure [(a, u)])
    (hbody : ∀ (A : Around) (outer : List Env) (s : Shared) (H1 : Hp) (E : XK), Room k (A.deeper (NdefX.envF (lamF q params scope cl c') f s.heap.objs.size)) → PE (NdefX.ncx C8.CX0 X.prog X.w X.K X.mg X.base N (lamF q params scope cl c') f A outer s H1 E) body t)
    (hl : FzL X.K H l xs) (hx : xs[j]? = some v) (rv : L2.RelV v u)
    (ht : ∀ H1, Evo H noO H1 → t (NdefX.startF N [v] (js.map (NdefX.slotAt σ))) H1 (fun v' H2 => Evo H1 noO H2 ∧ ∃ kd, keys[j]? = some kd ∧ Rep X.K H2 v' kd))
    (J : KJ X pins σ H S I H' s') (hst : s'.heap.IsListIter I l (j + 1) ∧ s'.heap.IsList l its) (ho : s'.heap.get? S = some o) (hoc : ∀ c, o.data ≠ .cell c)
    (hq : ∀ w s2 H2 v2 kd, KJ X pins σ H S I H2 s2 → Evo H' noO H2 → L2.RelV v2 w → keys[j]? = some kd → Rep X.K H2 v2 kd → (s2.heap.IsListIter I l (j + 1) ∧ s2.heap.IsList l its) → s2.heap.get? S = some o → Q w s2) :
    wpAny (model X.prog X.w) X.A.in1 (call (.ref f) [u]) Q E s' := by
  obtain ⟨⟨oi, hoi, hoc1, hod⟩, hll⟩ := hst
  have I1 : Inv X (pins ++ pinsAt [S, I] s'.heap) σ H' s' := J.inv.pinned (fp := [S, I]) (fun b hb => by
    rcases List.mem_cons.mp hb with rfl | hb
    · exact J.S0
    · rw [List.mem_singleton.mp hb]; exact J.I0) fun b hb => by
    rcases List.mem_cons.mp hb with rfl | hb
    · exact ⟨o, ho, hoc⟩
    · rw [List.mem_singleton.mp hb]
      exact ⟨oi, hoi, fun v z => by rw [hod] at z; cases z⟩
  have of1 : s'.heap.get? f = some (PySem.W.kla_obj "<lambda>" q params body scope cl pm c' ctv) := (J.inv.pin _ (List.mem_append_right _ hfp)).1
  have hc2 : H' c' = some (LamX.CodeO c' q) := J.evo.keep _ _ (fun z => z) (fun ps z => LamX.codeO_ne ps z) hc
  have rc := lam_run (CX := C8.CX0) (f := f) (E := fun _ _ _ => False) (Q := fun v' H2 => Evo H' noO H2 ∧ ∃ kd, keys[j]? = some kd ∧ Rep X.K H2 v' kd) hS (hb u) (show Room (k + 1) X.A.in1 from Room.in1 hr) J.inv.env0.in1 of1 hc2 (NdefX.cells_of J.inv hcp) rv
    (hbody _ _ _ _ _ ((show Room (k + 1) X.A.in1 from Room.in1 hr).deeper _)) (ht H' J.evo)
  refine wpAny_call (codeAny_mono rc fun r s2 hq2 => ?_)
  cases r with
  | error e => exact False.elim hq2
  | ok fl =>
    cases fl with
    | next => exact False.elim hq2
    | brk => exact False.elim hq2
    | cont => exact False.elim hq2
    | ret w =>
      obtain ⟨v2, H2, I2, rv2, ev2, kd, hkd, rk⟩ := I1.after hq2
      have I3 := I2.unpinned
      have pS := I2.pin (S, o) (List.mem_append_right _ (List.mem_append_right _ (mem_pinsAt (List.mem_cons_self) ho)))
      have pI := I2.pin (I, oi) (List.mem_append_right _ (List.mem_append_right _ (mem_pinsAt (List.mem_cons_of_mem _ (List.mem_singleton.mpr rfl)) hoi)))
      obtain ⟨ol, hol, hlc, n, hld⟩ := hll
      have gl : s2.heap.get? l = some ol := by
        rcases hl with ⟨od, e⟩ | ⟨its', n', e, _, _⟩
        · have e1 := J.evo.fz _ _ e trivial
          have g1 := (J.inv.hok l _ e1).1
          have g2 := (I3.hok l _ (ev2.fz _ _ e1 trivial)).1
          rw [g1] at hol
          rw [g2]; exact hol
        · have g1 := J.inv.kIn l _ e
          have g2 := I3.kIn l _ e
          rw [g1] at hol
          rw [g2]; exact hol
      exact hq w s2 H2 v2 kd ⟨I3, J.evo.trans' ev2, fpOk_none J.S0 pS.2.1, fpOk_none J.I0 pI.2.1⟩ ev2 rv2 hkd rk ⟨⟨oi, pI.1, hoc1, hod⟩, ⟨ol, gl, hlc, n, hld⟩⟩ pS.1
end
end Vi

/-! Vi, part M3: max(xs, key=lambda k: ..) whole. -/
namespace Vi
open PySem PySem.Spec PyProof.Rows
open L2
theorem toPs_at : ∀ {ds : List D} {ps : List PyData} {i : Nat} {d : D}, toPs ds = some ps → ds[i]? = some d → ∃ p, ps[i]? = some p ∧ toP d = some p ∧ p ∈ ps := by
  intro ds
  induction ds with
  | nil => intro ps i d _ h; simp at h
  | cons x ds ih =>
    intro ps i d h hd
    unfold toPs at h
    cases hx : toP x with
    | none => rw [hx] at h; cases h
    | some p =>
      rw [hx] at h
      cases hr : toPs ds with
      | none => rw [hr] at h; cases h
      | some r =>
        rw [hr] at h
        cases h
        cases i with
        | zero =>
          simp at hd
          subst hd
          exact ⟨p, rfl, hx, List.mem_cons_self⟩
        | succ i =>
          obtain ⟨q, h1, h2, h3⟩ := ih hr (by simpa using hd)
          exact ⟨q, by simpa using h1, h2, List.mem_cons_of_mem _ h3⟩
section
variable [Wx] {X : Cx} {N fr : List Str} {a q : Str} {params : Arguments} {body : Expr} {scope : Scope} {cl : List (Str × Addr)} {c' f l : Addr} {pm ctv : Value} {k : Nat} {js : List Nat} {t : TE} {keys : List D} {ps : List PyData} {xs : List V}
theorem vals_at {xs : List V} {us : List Value} {j : Nat} {u : Value} (r : Vals xs us) (h : us[j]? = some u) : ∃ v, xs[j]? = some v ∧ L2.RelV v u := by
  have hj : j < us.length := (List.getElem?_eq_some_iff.mp h).1
  have hx : j < xs.length := by rw [r.length]; exact hj
  obtain ⟨u', h1, h2⟩ := r.get (List.getElem?_eq_getElem hx)
  rw [h] at h1
  cases h1
  exact ⟨_, List.getElem?_eq_getElem hx, h2⟩
theorem key_max {pins : List (Addr × Obj)} {σ : L2.St} {H : Hp} {s : Shared} {Q : VK} (I : Inv X pins σ H s) (hc0 : X.calm = true) (hu : X.A.units + 80 < cLine)
    (hr : Room (k + 2) X.A) (hfp : ((f, PySem.W.kla_obj "<lambda>" q params body scope cl pm c' ctv) : Addr × Obj) ∈ pins) (hc : H c' = some (LamX.CodeO c' q)) (hcp : NdefX.Caps X cl fr js) (hS : NdefX.NScope N [a] fr scope)
    (hb : ∀ u, bindArgs (PySem.W.kla_fn "<lambda>" q params body scope cl pm (.ref c') ctv) ⟨[u], []⟩ = pure [(a, u)])
    (hbody : ∀ (A : Around) (outer : List Env) (s : Shared) (H1 : Hp) (E : XK), Room k (A.deeper (NdefX.envF (lamF q params scope cl c') f s.heap.objs.size)) → PE (NdefX.ncx C8.CX0 X.prog X.w X.K X.mg X.base N (lamF q params scope cl c') f A outer s H1 E) body t)
    (hl : FzL X.K H l xs) (hne : 0 < xs.length)
    (ht : ∀ (j : Nat) (v : V), xs[j]? = some v → ∀ H1, Evo H noO H1 → t (NdefX.startF N [v] (js.map (NdefX.slotAt σ))) H1 (fun v' H2 => Evo H1 noO H2 ∧ ∃ kd, keys[j]? = some kd ∧ Rep X.K H2 v' kd))
    (hps : toPs keys = some ps) (ha : PySem.W.AlikeAll ps) (hdp : ∀ p ∈ ps, p.depth ≤ 64)
    (hQ : ∀ v H', xs[bestK (fun i => ps.getD i .none) xs.length]? = some v → Evo H noO H' → Q v H') :
    wpAny (model X.prog X.w) X.A (call (.builtin "max") [.ref l] [(Str.ofString "key", .ref f)]) (EP X pins σ Q) X.xe s := by
  obtain ⟨its, n, rv, ho, hsz⟩ := SqX.obj I (.inr hl : SqX X.K H l xs)
  have hh : X.A.handled = none := I.ok.hd hc0
  have hlI : s.heap.IsList l its.toArray := ⟨_, ho, rfl, n, rfl⟩
  have hxl : xs.length = its.toArray.size := by rw [List.size_toArray]; exact rv.length
  refine max_key (PySem.W.iter_listW (A := X.A.in1) hh hlI fun s₂ e W st hfp2 hw hk => ?_)
  have hSz : s.heap.objs.size ≤ s₂.heap.objs.size := by
    rw [e]
    show s.heap.objs.size ≤ (s.heap.push _).objs.size
    simp [Heap.push]
  have I2 : Inv X pins σ H s₂ := by
    rw [e]
    exact I.kept (t' := s.toks) fun b o h => Heap.get?_push_of_some _ h
  have fS : FpOk X pins H s₂.heap.objs.size := I.fpOk hSz (I.hok.fresh hSz)
  have fI : FpOk X pins H s.heap.objs.size := I.fpOk (Nat.le_refl _) (I.hok.fresh (Nat.le_refl _))
  have at_ : ∀ (j : Nat) (u : Value), its.toArray[j]? = some u → ∃ v, xs[j]? = some v ∧ L2.RelV v u := fun j u h => vals_at rv (by simpa using h)
  refine ⟨_, _, _, _, _, _, _, fun s' => ∃ H', KJ X pins σ H s₂.heap.objs.size s.heap.objs.size H' s',
    fun j b kb s' => ∃ H' v kd, KJ X pins σ H s₂.heap.objs.size s.heap.objs.size H' s' ∧ L2.RelV v kb ∧ keys[b]? = some kd ∧ Rep X.K H' v kd ∧ b = bestK (fun i => ps.getD i .none) j ∧ 1 ≤ j,
    fun j b kb k s' => ∃ H' v kd v2 kd2, KJ X pins σ H s₂.heap.objs.size s.heap.objs.size H' s' ∧ L2.RelV v kb ∧ keys[b]? = some kd ∧ Rep X.K H' v kd ∧ b = bestK (fun i => ps.getD i .none) j ∧ 1 ≤ j ∧ L2.RelV v2 k ∧ keys[j]? = some kd2 ∧ Rep X.K H' v2 kd2,
    rfl, W, st, hfp2, by rw [← hxl]; exact hne, ?_, ⟨H, I2, .refl, fS, fI⟩, ?_⟩
  · refine ⟨fun s1 s2 ⟨H', J⟩ m => ⟨H', J.keep m⟩, fun j b kb s1 s2 ⟨H', v, kd, J, h⟩ m => ⟨H', v, kd, J.keep m, h⟩, ?_, ?_, ?_⟩
    · rintro u s1 o Q' E hP ⟨H', J⟩ hst ho1 hoc hq
      obtain ⟨v, hv, rvu⟩ := at_ 0 u hP
      refine key_turn hr hfp hc hcp hS hb hbody hl hv rvu (ht 0 v hv) J hst ho1 hoc fun w s2 H2 v2 kd J2 ev2 rv2 hkd rk hst2 ho2 => ?_
      exact hq w s2 ⟨H2, v2, kd, J2, rv2, hkd, rk, rfl, Nat.le_refl 1⟩ hst2 ho2
    · rintro j b kb u s1 o Q' E hj hP ⟨H', vb, kdb, J, rvb, hkb, rkb, hbb, hj1⟩ hst ho1 hoc hq
      obtain ⟨v, hv, rvu⟩ := at_ j u hP
      refine key_turn hr hfp hc hcp hS hb hbody hl hv rvu (ht j v hv) J hst ho1 hoc fun w s2 H2 v2 kd J2 ev2 rv2 hkd rk hst2 ho2 => ?_
      exact hq w s2 ⟨H2, vb, kdb, v2, kd, J2, rvb, hkb, rkb.mono ev2.fz, hbb, hj1, rv2, hkd, rk⟩ hst2 ho2
    · rintro j b kb kx s1 Q' E ⟨H', vb, kdb, v2, kd, J, rvb, hkb, rkb, hbb, hj1, rv2, hkd, rk⟩ hq
      obtain ⟨pb, hpb, tpb, mb⟩ := toPs_at hps hkb
      obtain ⟨pj, hpj, tpj, mj⟩ := toPs_at hps hkd
      obtain ⟨as1, r1⟩ := Dp.reads J.inv pj v2 kx (rk.dp tpj) rv2
      obtain ⟨as2, r2⟩ := Dp.reads J.inv pb vb kb (rkb.dp tpb) rvb
      refine PySem.W.rcGt_alike pj pb X.A.in1 s1 kx kb as1 as2 r1 r2 (ha.1 _ mj _ mb) (ha.2 _ mj) (by
        have := hdp _ mj
        have := Nat.min_le_left pj.depth pb.depth
        show X.A.units + 1 + _ < _
        omega) X.prog X.w E Q' (hq _ ?_)
      have e1 : ps.getD b .none = pb := by rw [List.getD_eq_getElem?_getD, hpb]; rfl
      have e2 : ps.getD j .none = pj := by rw [List.getD_eq_getElem?_getD, hpj]; rfl
      have e3 : bestK (fun i => ps.getD i .none) (j + 1) = if ltP pb pj = true then j else b := by
        show (if j = 0 then 0 else if ltP (ps.getD (bestK (fun i => ps.getD i .none) j) .none) (ps.getD j .none) = true then j else bestK (fun i => ps.getD i .none) j) = _
        rw [if_neg (by omega), ← hbb, e1, e2]
      have hlt0 := ltP_data pb pj (ha.1 _ mb _ mj) (ha.2 _ mb)
      rw [← hlt0]
      cases hlt : ltP pb pj with
      | true =>
        rw [hlt] at e3
        exact ⟨H', v2, kd, J, rv2, hkd, rk, e3.symm, by omega⟩
      | false =>
        rw [hlt] at e3
        exact ⟨H', vb, kdb, J, rvb, hkb, rkb, e3.symm, by omega⟩
  · rintro u b kb s' hP ⟨H', v, kd, J, _, _, _, hbb, _⟩
    obtain ⟨v0, hv0, rv0⟩ := at_ b u hP
    refine ⟨v0, H', J.inv, rv0, hQ v0 H' ?_ J.evo⟩
    rw [hxl, ← hbb]
    exact hv0
end
end Vi

/-! Vi, part M4: the expression max(e, key=lambda k: body). -/
namespace Vi
open PySem PySem.Spec PyProof.Rows
open L2
section
variable [Wx] {X : Cx}
/-- what is asked of max(v, key=..), v a list that stands -/
def KeyQ (X : Cx) (T : List (Addr × Str)) (N : List Str) (js : List Nat) (t : TE) (σ : L2.St) (Q : VK) (v : V) (H1 : Hp) : Prop :=
  ∃ (l : Addr) (xs : List V) (keys : List D) (ps : List PyData), v = .ref l ∧ FzL X.K H1 l xs ∧ 0 < xs.length ∧ LamX.Tabs T H1 ∧ toPs keys = some ps ∧ PySem.W.AlikeAll ps ∧ (∀ p ∈ ps, p.depth ≤ 64) ∧
    ∀ H2, LamX.ExtN H1 H2 → LamX.Tabs T H2 → (∀ (j : Nat) (x : V), xs[j]? = some x → ∀ H3, Evo H2 noO H3 → t (NdefX.startF N [x] (js.map (NdefX.slotAt σ))) H3 (fun v' H4 => Evo H3 noO H4 ∧ ∃ kd, keys[j]? = some kd ∧ Rep X.K H4 v' kd)) ∧
      ∀ x H', xs[bestK (fun i => ps.getD i .none) xs.length]? = some x → Evo H2 noO H' → Q x H'
def KeyQs (X : Cx) (T : List (Addr × Str)) (N : List Str) (js : List Nat) (t : TE) (σ : L2.St) (Q : VK) : List V → Hp → Prop
  | [v], H1 => KeyQ X T N js t σ Q v H1
  | _, _ => False
theorem pe_keymax {T : List (Addr × Str)} {N fr : List Str} {js : List Nat} {a : Str} {params : Arguments} {body : Expr} {scope : Scope} {p pos lpos kpos : Pos} {e : Expr} {te t : TE} {k : Nat} {c Pt : Addr}
    (hg : Gl X "max") (hm : X.mg "max" = none) (hc0 : X.calm = true) (hu : X.A.units + 80 < cLine) (hr : Room (k + 2) X.A) (he : PE X e te) (hst : noStar e = true)
    (TB : LamX.TabB X.base X.mg c Pt) (hcode : X.env.code = .ref c) (hmT : (Pt, X.env.qual ++ "<lambda>") ∈ T) (hut : ∀ p ∈ T, p.1 = Pt → p.2 = X.env.qual ++ "<lambda>") (hdef : defaultsOf params X.env = ([], []))
    (hfree : ∀ y ∈ scope.names, y.2 = .free → X.env.scope.names.lookup y.1 = some .cell ∨ X.env.scope.names.lookup y.1 = some .free) (hfr : ∀ y ∈ fr, (y, NameKind.free) ∈ scope.names) (hjs : js.map (fun j => X.N[j]?) = fr.map some)
    (hS : NdefX.NScope N [a] fr scope)
    (hb : ∀ (q : Str) (cl : List (Str × Addr)) (pm cv ctv u : Value), bindArgs (PySem.W.kla_fn "<lambda>" q params body scope cl pm cv ctv) ⟨[u], []⟩ = pure [(a, u)])
    (hbody : ∀ (cl : List (Str × Addr)) (c' f : Addr) (A : Around) (outer : List Env) (s : Shared) (H1 : Hp) (E : XK), Room k (A.deeper (NdefX.envF (lamF (X.env.qual ++ "<lambda>") params scope cl c') f s.heap.objs.size)) →
      PE (NdefX.ncx C8.CX0 X.prog X.w X.K X.mg X.base N (lamF (X.env.qual ++ "<lambda>") params scope cl c') f A outer s H1 E) body t) :
    PE X (.Call (.Name "max" p) [e] [⟨some "key", .Lambda params body scope lpos, kpos⟩] pos) (fun σ H Q => te σ H (KeyQ X T N js t σ Q)) := by
  have hcl : ∀ (ok : X.Ok), ∀ y ∈ scope.names, y.2 = .free → ∃ c, X.env.cells.lookup y.1 = some c := fun ok y hy z => (hfree y hy z).elim (fun w => ok.has _ (.inl w)) fun w => ok.has _ (.inr w)
  refine ⟨fun pins s σ H Q I h => ?_⟩
  refine wpAny_Call_Name_kw (ld_blt I hg hm rfl ?_ (by decide) (by decide))
  have hpa : PA X [e] (tCons te tNil) := pa_cons he pa_nil (star1 hst)
  have hall : [e].all noStar = true := by rw [List.all_cons, hst]; rfl
  refine PyProof.Rows.callWith_kw (thn (hpa.run pos pins s σ H (KeyQs X T N js t σ Q) I h) fun us s1 ⟨vs, H1, I1, r1, q1⟩ => ?_) (by rw [star1 hst]; rfl) (starAny hall) (by rfl) (by rfl)
  obtain ⟨v, rfl, q1⟩ : ∃ v, vs = [v] ∧ KeyQ X T N js t σ Q v H1 := by
    match vs, q1 with
    | [v], q1 => exact ⟨v, rfl, q1⟩
  obtain ⟨l, xs, keys, ps, rfl, hl, hne, hT, hps, hal, hdp, hrest⟩ := q1
  obtain ⟨u, rfl, ru⟩ := r1.one
  cases (show u = Value.ref l from ru)
  show wpAny _ _ (evalAll ((do let v ← eval (.Lambda params body scope lpos) X.env; standAt pos; pure v) :: [])) _ _ s1
  refine wpAny_evalAll_cons (wpAny_bind (LamX.lam_make2 I1 TB hcode hmT hut hT hdef (hcl I1.ok) fun f c' pm ctv H2 s2 I2 eN T2 hf hfn hfs hco => wpAny_bind (wpAny_standAt (wpAny_pure ?_))))
  refine wpAny_evalAll_nil ?_
  obtain ⟨ht, hQ⟩ := hrest H2 eN T2
  have fne : f ≠ X.env.locals := fun z => by
    obtain ⟨m, ⟨o, es, ep, ho, hd, _⟩, _⟩ := I2.loc
    rw [← z, hf] at ho
    cases ho
    cases hd
  have ffs : f ∉ X.fs := fun z => hfs (by
    rcases I2.ok.stk with e | ⟨e, _⟩
    · rw [e]; exact z
    · rw [e]; unfold frs; rw [List.filterMap_cons]
      split
      · exact z
      · exact List.mem_cons_of_mem _ z)
  have I3 : Inv X ((f, PySem.W.kla_obj "<lambda>" (X.env.qual ++ "<lambda>") params body scope (cloFrom X.env.cells scope.names []) pm c' ctv) :: pins) σ H2 s2 := I2.pins_of fun p hp => by
    rcases List.mem_cons.mp hp with rfl | hp
    · exact ⟨hf, hfn, fne, ffs, fun v z => nomatch z⟩
    · exact I2.pin p (List.mem_append_right _ hp)
  have hl2 : FzL X.K H2 l xs := (fzS_extN eN).fzL hl
  refine wpAny_mono (key_max I3 hc0 hu hr List.mem_cons_self hco (NdefX.Caps.made I2.ok hfree hfr hjs) hS (hb _ _ _ _ _) (fun A outer s H1 E => hbody _ _ _ A outer s H1 E) hl2 hne ht hps hal hdp hQ) (fun w s3 ⟨v, H3, I4, rv, q⟩ => ?_) fun _ _ z => z
  exact ⟨v, H3, I4.pins_of fun p hp => I4.pin p (List.mem_append_right _ (List.mem_cons_of_mem _ hp)), rv, q⟩
end
end Vi

/-! Vi, part M5: max(e, key=lambda k: body), in the evaluator's words. -/
namespace Vi
open PySem PySem.Spec PyProof.Rows
open L2
theorem mapRes_at {f : D → Res D} : ∀ {ds ks : List D}, mapRes f ds = .ok ks → ks.length = ds.length ∧ ∀ (j : Nat) (d : D), ds[j]? = some d → ∃ k, ks[j]? = some k ∧ f d = .ok k := by
  intro ds
  induction ds with
  | nil => intro ks h; unfold mapRes at h; cases h; exact ⟨rfl, fun j d hd => by simp at hd⟩
  | cons x ds ih =>
    intro ks h
    unfold mapRes at h
    obtain ⟨k, h1, h⟩ := Res.bind_ok h
    obtain ⟨r, h2, h⟩ := Res.bind_ok h
    cases h
    obtain ⟨i1, i2⟩ := ih h2
    refine ⟨by simp [i1], fun j d hd => ?_⟩
    cases j with
    | zero =>
      simp at hd
      subst hd
      exact ⟨k, rfl, h1⟩
    | succ j => exact i2 j d (by simpa using hd)
section
variable [Wx] {X : Cx} {P : Tb} {G : List D}
theorem reps_at {K : PySem.W.Frag} {H : Hp} : ∀ {xs : List V} {ds : List D} {j : Nat} {x : V}, Reps K H xs ds → xs[j]? = some x → ∃ d, ds[j]? = some d ∧ Rep K H x d
  | _, _, _, _, .nil, h => by simp at h
  | _, _, 0, _, .cons (d := d) r _, h => by
    simp at h
    subst h
    exact ⟨d, rfl, r⟩
  | _, _, j + 1, _, .cons _ t, h => by
    obtain ⟨d, h1, h2⟩ := reps_at (j := j) t (by simpa using h)
    exact ⟨d, by simpa using h1, h2⟩
theorem caps_ok {K : PySem.W.Frag} {H : Hp} {σ : L2.St} {en : En} {φ : Fp} (ok : EnvOk K H σ en φ) : ∀ {js : List Nat} {cs : List D}, capsD en js = some cs → ∃ vs : List V, js.map (NdefX.slotAt σ) = vs.map some ∧ Reps K H vs cs := by
  intro js
  induction js with
  | nil => intro cs h; unfold capsD at h; cases h; exact ⟨[], rfl, .nil⟩
  | cons j js ih =>
    intro cs h
    unfold capsD at h
    split at h
    · rename_i d r h1 h2
      cases h
      obtain ⟨vs, i1, i2⟩ := ih h2
      have q := ok.slot j
      rw [h1] at q
      obtain ⟨⟨v, z, rv⟩, _⟩ := q
      exact ⟨v :: vs, by rw [List.map_cons, List.map_cons, i1, NdefX.slotAt_of z], .cons rv i2⟩
    · cases h
theorem evo_noO {H H' : Hp} (h : Evo H noO H') : Evo H (Own noFp) H' := h.sub fun b z => z.elim
theorem evo_no {H H' : Hp} (h : Evo H (Own noFp) H') : Evo H noO H' := h.sub fun b z => absurd z (noFp_own b)
theorem kmax_core {src body : Ex} {js : List Nat} {nms : List Str} (hs : isB src = false) (hb : isB body = false) (hlen : nms.length = js.length + 1) {σ : L2.St} {H : Hp} {Q : VK} (h : tE X.K P G (.kmax src js nms body) σ H Q) :
    tE X.K P G src σ H (KeyQ X Wx.tabs nms js (tE X.K P G body) σ Q) := by
  obtain ⟨en, φ, ok, d, en', he, q⟩ := h
  unfold ev at he
  obtain ⟨⟨r, e1⟩, f1, he1⟩ := Res.bind_ok he
  dsimp only at he1
  split at he1
  rotate_left
  · cases he1
  rename_i ds
  split at he1
  rotate_left
  · cases he1
  rename_i cs hcs
  obtain ⟨ks, f2, he2⟩ := Res.bind_ok he1
  split at he2
  rotate_left
  · cases he2
  rename_i m hm
  cases he2
  unfold maxKey at hm
  split at hm
  rotate_left
  · cases hm
  rename_i ps hps
  split at hm
  rotate_left
  · cases hm
  rename_i hok
  obtain ⟨hk, hkl⟩ := hok
  unfold okSort at hk
  simp only [Bool.and_eq_true, Bool.or_eq_true, List.all_eq_true] at hk
  obtain ⟨⟨k1, k2⟩, k3⟩ := hk
  have hsrt : ∀ p ∈ ps, p ≠ .none := fun p hp => by
    rcases k2 with k | k
    · obtain ⟨_, _, e⟩ := isT1_ok (k p hp)
      rw [e]; simp
    · exact (isAt_ok (k p hp)).1
  refine ⟨en, φ, ok, _, _, f1, fun v H1 ok1 ev1 v1 => ?_⟩
  have r1 : Rep X.K H1 v (.lst ds) := val_rep hs v1
  cases r1 with
  | lst hl hr =>
    rename_i l xs
    have hxl : xs.length = ds.length := hr.length
    have hpos : 0 < ds.length := by
      have := (List.getElem?_eq_some_iff.mp hm).1
      omega
    refine ⟨l, xs, ks, ps, rfl, hl, by omega, ok1.tb, hps, ⟨fun x hx y hy => allLike_ok k1 x hx y hy, hsrt⟩, fun p hp => ?_, fun H2 eN t2 => ⟨fun j x hx H3 ev3 => ?_, fun x H' hx ev' => ?_⟩⟩
    · have := SeqAt.depth_of_shaped (k3 p hp)
      omega
    · obtain ⟨dj, hdj, rj⟩ := reps_at hr hx
      obtain ⟨kd, hkd, hf⟩ := (mapRes_at f2).2 j dj hdj
      obtain ⟨⟨kd', en2⟩, hev, hq2⟩ := Res.bind_ok hf
      cases hq2
      obtain ⟨vs, c1, c2⟩ := caps_ok ok1 hcs
      have fz3 : FzS H1 H3 := (fzS_extN eN).trans ev3.fz
      have e0 : NdefX.startF nms [x] (js.map (NdefX.slotAt σ)) = (x :: vs).map some := by
        unfold NdefX.startF
        rw [c1, hlen]
        have : js.length = vs.length := by
          have := congrArg List.length c1
          simpa using this
        rw [List.length_map, List.length_singleton, this, show vs.length + 1 - 1 - vs.length = 0 by omega]
        simp
      refine ⟨.fz dj :: cs.map .fz, noFp, ?_, kd', en2, hev, fun v' H4 ok4 ev4 v4 => ⟨evo_no ev4, kd', hkd, val_rep hb v4⟩⟩
      rw [e0]
      exact env_fz (vs := x :: vs) (ds := dj :: cs) (.cons (rj.mono fz3) (c2.mono fz3)) (ev3.tb t2)
    · rw [hxl] at hx
      obtain ⟨dm, hdm, rm⟩ := reps_at hr hx
      rw [hm] at hdm
      cases hdm
      have ok2 := env_extN ok1 eN t2
      have ok3 := env_evo0 ok2 (evo_noO ev')
      have evS : Evo H (Own φ) H' := (ev1.trans' (evo_extN eN t2)).trans' (ev'.sub fun b z => z.elim)
      exact q x H' ok3 evS (rep_val (by rfl) (rm.mono ((fzS_extN eN).trans ev'.fz)))
/-- one parameter of this name -/
def onePB (a : Str) : Arguments → Bool
  | ⟨[], [x], none, [], [], none, []⟩ => decide (x.arg = a)
  | _ => false
theorem onePB_bind {a : Str} {params : Arguments} (h : onePB a params = true) (body : Expr) (scope : Scope) (q : Str) (cl : List (Str × Addr)) (pm cv ctv u : Value) : bindArgs (PySem.W.kla_fn "<lambda>" q params body scope cl pm cv ctv) ⟨[u], []⟩ = pure [(a, u)] := by
  unfold onePB at h
  split at h
  · rename_i x
    obtain rfl := of_decide_eq_true h
    unfold bindArgs
    simp only [List.map_nil, List.map_cons, List.nil_append, List.length_cons, List.length_nil, List.zip_cons_cons, List.zip_nil_left]
    simp [seqItems?, List.lookup, pure_bind]
    rfl
  · cases h
theorem onePB_def {a : Str} {params : Arguments} (h : onePB a params = true) (env : Env) : defaultsOf params env = ([], []) := by
  unfold onePB at h
  split at h
  · rfl
  · cases h
/-- the lambda's captured names are captured here -/
def freeB (sc scope : Scope) : Bool := scope.names.all fun y => !decide (y.2 = .free) || decide (sc.names.lookup y.1 = some .cell) || decide (sc.names.lookup y.1 = some .free)
theorem freeB_ok {sc scope : Scope} (h : freeB sc scope = true) : ∀ y ∈ scope.names, y.2 = .free → sc.names.lookup y.1 = some .cell ∨ sc.names.lookup y.1 = some .free := by
  unfold freeB at h
  simp only [List.all_eq_true, Bool.or_eq_true, Bool.not_eq_true', decide_eq_true_eq, decide_eq_false_iff_not] at h
  intro y hy e
  rcases h y hy with (z | z) | z
  · exact absurd e z
  · exact .inl z
  · exact .inr z
def nmB (x : Str) : Bool := !(x == ("__debug__" : Str)) && !(x == ("__classdict__" : Str))
theorem nmB_ok {x : Str} (h : nmB x = true) : (x == ("__debug__" : Str)) = false ∧ (x == ("__classdict__" : Str)) = false := by
  unfold nmB at h
  simpa using h
end
end Vi

/-! Vi, part 19: which expressions of the text a term of the language stands for (decided), and that it does. -/
namespace Vi
open PySem PySem.Spec PyProof.Rows
open L2
variable [Wx]

/-- what stands fast of a def: its names by place; builtins that the module leaves alone; the module's constants; its defs with so many parameters -/
structure Zc where
  N : List Str
  nb : List Str
  gcs : List Str
  fs : List (Option (Nat × Str) × Str × Nat × Rk)
  cs : List (Str × Nat × List Str)
  xs : List Str
  /-- the classes that a clause may name, with the numbers of those that it catches -/
  em : List (Str × List Nat)
  /-- the defs that ask -/
  as : List (Str × AK × List (List Nat × HR))
  /-- it makes lambdas -/
  lam : Bool
def Zc.plain (z : Zc) : Zc := { z with lam := false }
def callOf (z : Zc) (co : Option Nat) (f : Nat) (y : Str) : Bool := match co, z.fs[f]? with
  | none, some p => decide (p.1 = none) && decide (p.2.1 = y) && decide (p.2.2.2 = .dat)
  | some c, some q => (match z.cs[c]? with
    | some p => decide (p.1 = y) && decide (q.1 = some (c, ("__init__" : Str))) && decide (q.2.2.2 = .ini)
    | none => false)
  | _, _ => false

def atN (z : Zc) (sc : Scope) (i : Nat) (x : Str) : Bool := decide (z.N[i]? = some x) && visB sc x
def blN (z : Zc) (sc : Scope) (s : Str) (x : Str) : Bool := decide (x = s) && glB sc x && z.nb.contains x
/-- the arguments of what a loop walks -/
def srcArgs (z : Zc) (sc : Scope) : SK → Expr → Expr → Option (List Expr)
  | .seq, e, _ => some [e]
  | .rng1, e, _ => match e with
    | .Call (.Name x _) [a] [] _ => if blN z sc "range" x = true then some [a] else none
    | _ => none
  | .rng2, e, _ => match e with
    | .Call (.Name x _) [a, b] [] _ => if blN z sc "range" x = true then some [a, b] else none
    | _ => none
  | .rev, e, _ => match e with
    | .Call (.Name x _) [a] [] _ => if blN z sc "reversed" x = true then some [a] else none
    | _ => none
  | .zip, e, tg => match e, tg with
    | .Call (.Name x _) [a, b] [] _, .Tuple _ _ _ => if blN z sc "zip" x = true then some [a, b] else none
    | _, _ => none
  | .keys, e, _ => some [e]
  | .revr, e, _ => match e with
    | .Call (.Name x _) [.Call (.Name y _) [a] [] _] [] _ => if blN z sc "reversed" x = true then (if blN z sc "range" y = true then some [a] else none) else none
    | _ => none
  | .rngd, e, _ => match e with
    | .Call (.Name x _) [a, b, c] [] _ => if blN z sc "range" x = true then some [a, b, c] else none
    | _ => none
  | .enum, e, tg => match e, tg with
    | .Call (.Name x _) [a] [] _, .Tuple _ _ _ => if blN z sc "enumerate" x = true then some [a] else none
    | _, _ => none
def isLk : Ex → Bool
  | .lk _ _ => true
  | _ => false
def isOw' : Rk → Bool
  | .ow => true
  | _ => false
def isRl : Prim → Bool
  | .rlist1 => true
  | .rlist2 => true
  | _ => false
def isO (z : Zc) : Ex → Bool
  | .call f _ => match z.fs[f]? with
    | some p => isOw' p.2.2.2
    | none => false
  | .lcm _ _ _ _ _ _ => true
  | .prim p _ => isRl p
  | .lst _ => true
  | .bin _ _ _ => true
  | .blt _ _ => true
  | .lc _ _ _ _ _ _ => true
  | .lc2 _ _ _ _ _ _ _ _ _ _ _ => true
  | .bad => true
  | .dnew => true
  | .sset _ => true
  | .lk _ _ => true
  | .ite _ a b => isO z a && isO z b
  | _ => false
def two (es : Exs) : Bool := match es with
  | .cons x (.cons y .nil) => (!isB x || quiet y) && !isB y
  | _ => false
def ownNs (z : Zc) (own : List Nat) : List (Str × Nat) := own.map fun i => (z.N.getD i default, i)
mutual
def ckE (z : Zc) (sc : Scope) : Ex → Expr → Bool
  | .var i, e => match e with
    | .Name x _ => atN z sc i x
    | _ => false
  | .bvar i, e => match e with
    | .Name x _ => atN z sc i x
    | _ => false
  | .int i, e => match e with
    | .Constant (.int j) _ _ => decide (i = j)
    | _ => false
  | .str x, e => match e with
    | .Constant (.str y) _ _ => decide (x = y)
    | _ => false
  | .non, e => match e with
    | .Constant .none _ _ => true
    | _ => false
  | .bl b, e => match e with
    | .Constant (.bool c) _ _ => decide (b = c)
    | _ => false
  | .gc g, e => match e with
    | .Name x _ => decide (z.gcs[g]? = some x) && glB sc x
    | _ => false
  | .tup es, e => match e with
    | .Tuple l _ _ => ckA z sc es l && noB es && decide (exsLen es ≤ 1000)
    | _ => false
  | .lst es, e => match e with
    | .List l _ => ckA z sc es l && noB es && decide (exsLen es ≤ 1000)
    | _ => false
  | .bin op a b, e => match e with
    | .BinOp x o y _ => decide (o = astB op) && ckE z sc a x && ckE z sc b y && (!isB a || quiet b)
    | _ => false
  | .neg a, e => match e with
    | .UnaryOp .USub x _ => ckE z sc a x && !isB a
    | _ => false
  | .not a, e => match e with
    | .UnaryOp .Not x _ => ckE z sc a x && !isB a
    | _ => false
  | .cmp op a b, e => match e with
    | .Compare x [o] [y] _ => decide (o = astC op) && ckE z sc a x && ckE z sc b y && (!isB a || quiet b) && notSet y
    | _ => false
  | .chain op op' a b c, e => match e with
    | .Compare x [o, o'] [y, w] _ => decide (o = astC op) && decide (o' = astC op') && ckE z sc a x && ckE z sc b y && ckE z sc c w && !isB a && !isB b && !isB c && notSet w
    | _ => false
  | .and a b, e => match e with
    | .BoolOp .And (x :: y :: r) p => ckE z sc a x && !isB a && !isB b && (match r with
      | [] => ckE z sc b y
      | _ => ckE z sc b (.BoolOp .And (y :: r) p))
    | _ => false
  | .or a b, e => match e with
    | .BoolOp .Or (x :: y :: r) p => ckE z sc a x && !isB a && !isB b && (match r with
      | [] => ckE z sc b y
      | _ => ckE z sc b (.BoolOp .Or (y :: r) p))
    | _ => false
  | .ite c a b, e => match e with
    | .IfExp t x y _ => ckE z sc c t && ckE z sc a x && ckE z sc b y && !isB c && !isB a && !isB b
    | _ => false
  | .call f es, e => match e with
    | .Call (.Name x _) l [] _ => (match z.fs[f]? with
      | some p => decide (p.1 = none) && decide (p.2.1 = x) && decide (p.2.2.2 ≠ .ini)
      | none => false) && glB sc x && lentOk (lentAt es) && ckA z sc es l
    | _ => false
  | .fld c k a, e => match e with
    | .Attribute x f _ => (match z.cs[c]? with
      | some p => decide (p.2.2[k]? = some f)
      | none => false) && ckE z sc a x && !isB a && noSup x
    | _ => false
  | .isc c a, e => match e with
    | .Call (.Name x _) [y, .Name t _] [] _ => blN z sc "isinstance" x && (match z.cs[c]? with
      | some p => decide (p.1 = t)
      | none => false) && glB sc t && noStar y && ckE z sc a y && !isB a
    | _ => false
  | .make c f es, e => match e with
    | .Call (.Name x _) (y :: l) [] _ => (match z.cs[c]?, z.fs[f]? with
      | some p, some q => decide (p.1 = x) && decide (q.1 = some (c, ("__init__" : Str))) && decide (q.2.2.2 = .ini)
      | _, _ => false) && glB sc x && noB es && ckA z sc es (y :: l)
    | _ => false
  | .meth c f es, e => match e with
    | .Call (.Attribute o m ap) l [] p => (match z.cs[c]?, z.fs[f]? with
      | some cp, some fp => decide (fp.1 = some (c, m)) && decide (fp.2.2.2 = .dat) && !cp.2.2.contains m
      | _, _ => false) && noB es && noSup o && (ap.endLine == p.line) && decide (l.length < 30) && ckA z sc es (o :: l)
    | _ => false
  | .om2 i a b, e => match e with
    | .Subscript (.Subscript (.Name y _) x _) w _ => atN z sc i y && ckE z sc a x && ckE z sc b w && !isB a && !isB b && quiet a && quiet b && noSlice x && noSlice w
    | _ => false
  | .pop i first, e => match e with
    | .Call (.Attribute (.Name y _) m ap) l [] p => decide (m = ("pop" : Str)) && atN z sc i y && (ap.endLine == p.line) && (match first, l with
      | false, [] => true
      | true, [.Constant (.int k) _ _] => decide (k = 0)
      | _, _ => false)
    | _ => false
  | .mdef mx a d, e => match e with
    | .Call (.Name x _) [u] [⟨k, w, _⟩] _ => decide (k = some ("default" : Str)) && blN z sc (Str.ofString (mdName mx)) x && noStar u && ckE z sc a u && !isB a && ckE z sc d w && !isB d
    | _ => false
  | .kmax src js nms body, e => match e, nms with
    | .Call (.Name x _) [u] [⟨k, .Lambda params b scope _, _⟩] _, a :: fr => decide (k = some ("key" : Str)) && blN z sc "max" x && z.lam && noStar u && ckE z sc src u && !isB src && onePB a params && NdefX.nscB (a :: fr) [a] fr scope && freeB sc scope && decide (js.map (fun j => z.N[j]?) = fr.map some) && (a :: fr).all nmB && ckE { z with N := a :: fr, lam := false } scope body b && !isB body
    | _, _ => false
  | .asked x ak hs co f es, e => match e with
    | .Call (.Name x' _) [.Lambda ps (.Call (.Name y _) (w :: l) [] _) scope _] [] _ => decide (x' = x) && glB sc x && z.lam && z.as.contains (x, ak, hs) && noPs ps && LamX.lamSB sc scope && callOf z co f y && glB scope y && noB es && ckA z.plain scope es (w :: l)
    | _ => false
  | .prim p es, e => match p, e with
    | .index, .Call (.Attribute o m ap) [w] [] q => decide (m = ("index" : Str)) && (ap.endLine == q.line) && noSup o && two es && ckA z sc es [o, w]
    | .count, .Call (.Attribute o m ap) [w] [] q => decide (m = ("count" : Str)) && (ap.endLine == q.line) && noSup o && two es && ckA z sc es [o, w]
    | .rlist1, .Call (.Name x _) [.Call (.Name y _) [a] [] _] [] _ => blN z sc "list" x && blN z sc "range" y && noB es && ckA z sc es [a]
    | .rlist2, .Call (.Name x _) [.Call (.Name y _) [a, b] [] _] [] _ => blN z sc "list" x && blN z sc "range" y && noB es && ckA z sc es [a, b]
    | _, _ => false
  | .blt f es, e => match e with
    | .Call (.Name x _) (y :: l) [] _ => blN z sc (Str.ofString (bfName f)) x && (noB es || quietA es) && ckA z sc es (y :: l)
    | _ => false
  | .isi a ty, e => match e with
    | .Call (.Name x _) [y, .Name t _] [] _ => blN z sc "isinstance" x && blN z sc (Str.ofString (tyN ty)) t && noStar y && ckE z sc a y
    | _ => false
  | .sub a i, e => match e with
    | .Subscript x y _ => ckE z sc a x && ckE z sc i y && (!isB a || quiet i) && noSlice y
    | _ => false
  | .lk _ a, e => isO z a && !isLk a && plainTest e && ckE z sc a e
  | .trev a, e => match e with
    | .Call (.Name x _) [.Call (.Name y _) [w] [] _] [] _ => blN z sc "tuple" x && blN z sc "reversed" y && ckE z sc a w && !isB a && noStar w
    | _ => false
  | .sset a, e => match e with
    | .Call (.Name x _) [.Call (.Name y _) [w] [] _] [] _ => blN z sc "sorted" x && blN z sc "set" y && ckE z sc a w && !isB a && noStar w
    | _ => false
  | .dnew, e => match e with
    | .Dict [] [] _ => true
    | _ => false
  | .dsub a i, e => match e with
    | .Subscript x y _ => ckE z sc a x && ckE z sc i y && (!isB a || quiet i) && !isB i && noSlice y
    | _ => false
  | .slice a lo hi, e => match e with
    | .Subscript x (.Slice l u none _) _ => ckE z sc a x && (!isB a || (quiet lo && quiet hi)) &&
      (match l with
      | none => isNop lo
      | some y => ckE z sc lo y && !isB lo && !isNop lo) &&
      (match u with
      | none => isNop hi
      | some y => ckE z sc hi y && !isB hi && !isNop hi)
    | _ => false
  | .nop, _ => false
  | .bad, _ => true
  | .lc own pt sk src cnd elt, e => match e with
    | .ListComp el [g] scope _ => decide (g.is_async = 0) && blkC z.N sc scope (ownNs z own) && (ptVars pt).all (fun i => own.contains i) && own.all (fun i => decide (i < z.N.length)) && !isB elt &&
      chkP z.N scope pt g.target && notSet g.iter && (match srcArgs z sc sk g.iter g.target with
        | some l => ckA z sc src l && noB src
        | none => false) && ckA z (relS scope sc) cnd g.ifs && noB cnd && decide (exsLen cnd ≤ 1) && ckE z (relS scope sc) elt el
    | _ => false
  | .lcm own pt sk src cnd elt, e => match e with
    | .ListComp el [g] scope _ => decide (g.is_async = 0) && blkC z.N sc scope (ownNs z own) && (ptVars pt).all (fun i => own.contains i) && own.all (fun i => decide (i < z.N.length)) && !isB elt &&
      chkP z.N scope pt g.target && notSet g.iter && (match srcArgs z sc sk g.iter g.target with
        | some l => ckA z sc src l && noB src
        | none => false) && ckA z (relS scope sc) cnd g.ifs && noB cnd && decide (exsLen cnd ≤ 1) && ckE z (relS scope sc) elt el
    | _ => false
  | .lc2 own pt sk src cnd vs pt1 sk1 src1 cnd1 elt, e => match e with
    | .ListComp el [g, g1] scope _ => decide (g.is_async = 0) && decide (g1.is_async = 0) && blkC z.N sc scope (ownNs z own) && (ptVars pt).all (fun i => own.contains i) && (ptVars pt1).all (fun i => vs.contains i) && vs.all (fun i => own.contains i) && own.all (fun i => decide (i < z.N.length)) && !isB elt &&
      chkP z.N scope pt g.target && chkP z.N scope pt1 g1.target && notSet g.iter && notSet g1.iter && (match srcArgs z sc sk g.iter g.target with
        | some l => ckA z sc src l && noB src
        | none => false) && (match srcArgs z (relS scope sc) sk1 g1.iter g1.target with
        | some l => ckA z (relS scope sc) src1 l && noB src1
        | none => false) && ckA z (relS scope sc) cnd g.ifs && noB cnd && decide (exsLen cnd ≤ 1) && ckA z (relS scope sc) cnd1 g1.ifs && noB cnd1 && decide (exsLen cnd1 ≤ 1) && ckE z (relS scope sc) elt el
    | _ => false
def ckA (z : Zc) (sc : Scope) : Exs → List Expr → Bool
  | .nil, es => match es with
    | [] => true
    | _ => false
  | .cons x xs, es => match es with
    | e :: es => noStar e && ckE z sc x e && ckA z sc xs es
    | [] => false
end
/-- what a def's body may lean on -/
structure Wd (X : Cx) (z : Zc) (P : Tb) (G : List D) (k : Nat) : Prop where
  calm : X.calm = true
  nd : z.N.Nodup
  eqN : X.N = z.N
  okN : ∀ x ∈ z.N, (x == ("__debug__" : Str)) = false ∧ (x == ("__classdict__" : Str)) = false
  nb : ∀ x ∈ z.nb, X.mg x = none
  gc : ∀ (g : Nat) (x : Str), z.gcs[g]? = some x → (x == ("__debug__" : Str)) = false ∧ ∃ (u : Value) (v : V) (d : D), X.mg x = some u ∧ RelV v u ∧ G[g]? = some d ∧ ∀ H, Rep X.K H v d
  fs : ∀ (f : Nat) (x : Str) (n : Nat) (o : Rk), z.fs[f]? = some (none, x, n, o) → (x == ("__debug__" : Str)) = false ∧ ∃ a fd ps, X.mg x = some (.ref a) ∧ PySem.W.keepIn X.K (.ref a) = true ∧ FnOk X.prog X.w X.K X.mg X.base (CX X.prog X.w) k a fd ps (spF X.K P f n o) ∧ L2.Binds X.K fd ps [] ∧
    (∀ sl r, P f sl = .ok r → sl.length = n ∧ r.2.length = ows sl) ∧ ∀ sl c p, P f sl = .exc c p → sl.length = n
  ms : ∀ (f c : Nat) (m x : Str) (n : Nat) (o : Rk), z.fs[f]? = some (some (c, m), x, n, o) → ∃ C ns, Wx.cls c = some (C, ns) ∧ ∃ a fd ps, (o ≠ .ini → Meth X.K C m a) ∧ (o = .ini → Mk X.K C a) ∧ FnOk X.prog X.w X.K X.mg X.base (CX X.prog X.w) k a fd ps (spF X.K P f n o) ∧ L2.Binds X.K fd ps [] ∧
    (∀ sl r, P f sl = .ok r → sl.length = n ∧ r.2.length = ows sl) ∧ ∀ sl c p, P f sl = .exc c p → sl.length = n
  cs : ∀ (c : Nat) (cn : Str) (fi : Nat) (ns : List Str), z.cs[c]? = some (cn, fi, ns) → (cn == ("__debug__" : Str)) = false ∧ ns.Nodup ∧ ∃ C, Wx.cls c = some (C, ns) ∧ X.mg cn = some (.ref C) ∧ Cls X.K C ∧ C8.InsC X.K C ∧ ∀ f ∈ ns, NoAttr X.K C f
  as : ∀ x ak hs, (x, ak, hs) ∈ z.as → AskOk X.prog X.w X.K X.mg X.base x ak hs
  lam : z.lam = true → LamAt X ∧ Room (k + 3) X.A
  room : Room (k + 1) X.A
theorem Wd.blk {X : Cx} {z : Zc} {P : Tb} {G : List D} {k : Nat} (h : Wd X z P G k) (s : Shared) (H : Hp) (scope : Scope) (cl : List (Str × Addr)) (C : Addr) (fp : List Addr) : Wd (X.blk s H scope (compEnvC scope cl C X.env) fp) z P G k :=
  ⟨h.calm, h.nd, h.eqN, h.okN, h.nb, h.gc, h.fs, h.ms, h.cs, h.as, h.lam, h.room⟩
/-- in a lambda's body -/
theorem Wd.lamC {X : Cx} {z : Zc} {P : Tb} {G : List D} {k : Nat} (h : Wd X z P G k) {A : Around} {outer : List Env} {s : Shared} {H : Hp} {E : XK} {scope : Scope} {f c : Addr} (hr : Room (k + 1) (A.deeper (LamX.lamEnv X scope s.heap.objs.size f c))) : Wd (LamX.lamCx X A outer s H E scope f c) z.plain P G k :=
  ⟨rfl, h.nd, h.eqN, h.okN, h.nb, h.gc, h.fs, h.ms, h.cs, h.as, fun q => (nomatch q), hr⟩
structure Good (z : Zc) (X : Cx) (P : Tb) (G : List D) (x : Ex) (e : Expr) : Prop where
  pe : PE X e (tE X.K P G x)
  pt : isB x = false → PT X e (tT X.K P G x)
  pw : ∀ op l p, e = .BoolOp op l p → PW X e (tT X.K P G x)
  po : isO z x = true → PE X e (tO X.K P G x)
/-- where its value is asked, its test is, too -/
theorem Good.val {z : Zc} {X : Cx} {P : Tb} {G : List D} {x : Ex} {e : Expr} (h : PE X e (tE X.K P G x)) (hp : plainTest e = true) (ho : isO z x = false) : Good z X P G x e :=
  ⟨h, fun hx => ptVal h hx hp, fun op l p he => by subst he; simp [plainTest] at hp, fun q => by rw [ho] at q; cases q⟩
theorem Good.own {z : Zc} {X : Cx} {P : Tb} {G : List D} {x : Ex} {e : Expr} (h : PE X e (tO X.K P G x)) (hx : isB x = false) (hp : plainTest e = true) : Good z X P G x e :=
  have h2 := pe_ofO hx h
  ⟨h2, fun hx => ptVal h2 hx hp, fun op l p he => by subst he; simp [plainTest] at hp, fun _ => h⟩
theorem Good.lcm_of {z : Zc} {X : Cx} {P : Tb} {G : List D} {own : List Nat} {pt : Pat} {sk : SK} {src cnd : Exs} {elt : Ex} {e : Expr} (g : Good z X P G (.lc own pt sk src cnd elt) e) : Good z X P G (.lcm own pt sk src cnd elt) e := by
  have h : ∀ en, ev P G (.lcm own pt sk src cnd elt) en = ev P G (.lc own pt sk src cnd elt) en := fun en => by rw [ev_lc, ev_lcm]
  have h1 : tE X.K P G (.lcm own pt sk src cnd elt) = tE X.K P G (.lc own pt sk src cnd elt) := by
    funext σ H Q
    unfold tE
    simp only [h]
    rfl
  have h2 : tO X.K P G (.lcm own pt sk src cnd elt) = tO X.K P G (.lc own pt sk src cnd elt) := by
    funext σ H Q
    unfold tO
    simp only [h]
  have h3 : tT X.K P G (.lcm own pt sk src cnd elt) = tT X.K P G (.lc own pt sk src cnd elt) := by
    funext σ H Q
    unfold tT
    simp only [h]
  exact ⟨h1 ▸ g.pe, fun q => h3 ▸ g.pt rfl, fun op l p q => h3 ▸ g.pw op l p q, fun _ => h2 ▸ g.po rfl⟩
theorem atN_ok {X : Cx} {z : Zc} {P : Tb} {G : List D} {k : Nat} (W : Wd X z P G k) {i : Nat} {x : Str} (h : atN z X.env.scope i x = true) : X.N[i]? = some x ∧ Vis X.env.scope x ∧ (x == ("__debug__" : Str)) = false ∧ (x == ("__classdict__" : Str)) = false := by
  unfold atN at h
  rw [Bool.and_eq_true, decide_eq_true_eq] at h
  have m : x ∈ z.N := List.mem_of_getElem? h.1
  exact ⟨by rw [W.eqN]; exact h.1, vis_of h.2, W.okN x m⟩
theorem blN_ok {X : Cx} {z : Zc} {P : Tb} {G : List D} {k : Nat} (W : Wd X z P G k) {s x : Str} (h : blN z X.env.scope s x = true) : x = s ∧ Gl X s ∧ X.mg s = none := by
  unfold blN at h
  rw [Bool.and_eq_true, Bool.and_eq_true, decide_eq_true_eq] at h
  obtain ⟨⟨rfl, h2⟩, h3⟩ := h
  exact ⟨rfl, gl_of h2, W.nb _ (by simpa using h3)⟩
theorem Good.bad {z : Zc} {X : Cx} {P : Tb} {G : List D} {e : Expr} : Good z X P G .bad e := by
  refine ⟨⟨fun pins s σ H Q I h => ?_⟩, fun _ => ⟨fun pins s σ H Q I h => ?_⟩, fun _ _ _ _ => ⟨fun w pins s σ H Q I h => ?_⟩, fun _ => ⟨fun pins s σ H Q I h => ?_⟩⟩
  all_goals (
    obtain ⟨en, φ, ok, d, en', he, q⟩ := h
    cases he)
theorem srcArgs1 {z : Zc} {sc : Scope} {sk : SK} {e tg : Expr} {l : List Expr} (h : srcArgs z sc sk e tg = some l) : (sk = .seq ∧ l = [e]) ∨ (sk = .keys ∧ l = [e]) ∨ (sk = .revr ∧ ∃ x p y p2 pos2 pos a, e = .Call (.Name x p) [.Call (.Name y p2) [a] [] pos2] [] pos ∧ l = [a] ∧ blN z sc "reversed" x = true ∧ blN z sc "range" y = true) ∨ ∃ x p pos, e = .Call (.Name x p) l [] pos ∧
    ((sk = .rng1 ∧ blN z sc "range" x = true ∧ ∃ a, l = [a]) ∨ (sk = .rng2 ∧ blN z sc "range" x = true ∧ ∃ a b, l = [a, b]) ∨ (sk = .rngd ∧ blN z sc "range" x = true ∧ ∃ a b c, l = [a, b, c]) ∨ (sk = .rev ∧ blN z sc "reversed" x = true ∧ ∃ a, l = [a]) ∨
      (sk = .zip ∧ blN z sc "zip" x = true ∧ (∃ a b, l = [a, b]) ∧ ∃ es k pt, tg = .Tuple es k pt) ∨ (sk = .enum ∧ blN z sc "enumerate" x = true ∧ (∃ a, l = [a]) ∧ ∃ es k pt, tg = .Tuple es k pt)) := by
  cases sk <;> simp only [srcArgs] at h
  case seq => exact .inl ⟨rfl, (Option.some.inj h).symm⟩
  case keys => exact .inr (.inl ⟨rfl, (Option.some.inj h).symm⟩)
  case revr =>
    right; right; left
    split at h
    · split at h
      · split at h
        · cases h
          exact ⟨rfl, _, _, _, _, _, _, _, rfl, rfl, by assumption, by assumption⟩
        · cases h
      · cases h
    · cases h
  all_goals (
    right; right; right
    split at h
    · split at h
      · cases h
        rename_i hb
        refine ⟨_, _, _, rfl, ?_⟩
        simp [hb]
      · cases h
    · cases h)
/-- what a row of terms stands for -/
structure GoodA (z : Zc) (X : Cx) (P : Tb) (G : List D) (xs : Exs) (es : List Expr) : Prop where
  pa : PA X es (tA X.K P G xs)
  ns : es.all noStar = true
  len : exsLen xs = es.length
  one : ∀ x, xs = .cons x .nil → ∃ e, es = [e] ∧ Good z X P G x e
  hd : ∀ x xs', xs = .cons x xs' → ∃ e es', es = e :: es' ∧ Good z X P G x e ∧ PA X es' (tA X.K P G xs') ∧ es'.all noStar = true ∧ noStar e = true
  tl : ∀ x xs', xs = .cons x xs' → ∀ y ys, xs' = .cons y ys → ∃ e es', es.tail = e :: es' ∧ Good z X P G y e ∧ PA X es' (tA X.K P G ys) ∧ es'.all noStar = true ∧ noStar e = true
theorem pts_ok {z : Zc} {X : Cx} {P : Tb} {G : List D} {cnd : Exs} {ifs : List Expr} (gc : GoodA z X P G cnd ifs) (hb : noB cnd = true) (h1 : exsLen cnd ≤ 1) : PTs X ifs (tC1 X.K P G cnd) := by
  have hln := gc.len
  cases cnd with
  | nil =>
    cases ifs with
    | nil => exact ptsN
    | cons _ _ => simp [exsLen] at hln
  | cons c cs =>
    cases cs with
    | cons _ _ => simp [exsLen] at h1
    | nil =>
      obtain ⟨y, rfl, gy⟩ := gc.one c rfl
      refine pts1 (gy.pt ?_)
      unfold noB at hb
      rw [Bool.and_eq_true, Bool.not_eq_true'] at hb
      exact hb.1
/-- a loop's source -/
theorem src_ok {X : Cx} {z : Zc} {P : Tb} {G : List D} {k : Nat} (W : Wd X z P G k) {sk : SK} {src : Exs} {e tg : Expr} {l : List Expr} (h : srcArgs z X.env.scope sk e tg = some l) (g : GoodA z X P G src l) (hb : noB src = true) : PI X tg e (tI X.K P G sk src) := by
  rcases srcArgs1 h with ⟨rfl, rfl⟩ | ⟨rfl, rfl⟩ | ⟨rfl, x, p, y, p2, pos2, pos, a, rfl, rfl, hb1, hb2⟩ | ⟨x, p, pos, rfl, h0⟩
  · have hl := g.len
    cases src with
    | nil => simp [exsLen] at hl
    | cons x xs =>
      cases xs with
      | cons _ _ => simp [exsLen] at hl
      | nil =>
        obtain ⟨e', h1, h2⟩ := g.one x rfl
        cases h1
        refine piSeq h2.pe ?_
        unfold noB at hb
        rw [Bool.and_eq_true, Bool.not_eq_true'] at hb
        exact hb.1
  · have hl := g.len
    cases src with
    | nil => simp [exsLen] at hl
    | cons x xs =>
      cases xs with
      | cons _ _ => simp [exsLen] at hl
      | nil =>
        obtain ⟨e', h1, h2⟩ := g.one x rfl
        cases h1
        refine piKeys h2.pe ?_
        unfold noB at hb
        rw [Bool.and_eq_true, Bool.not_eq_true'] at hb
        exact hb.1
  · obtain ⟨rfl, q1, q2⟩ := blN_ok W hb1
    obtain ⟨rfl, q3, q4⟩ := blN_ok W hb2
    have hl := g.len
    cases src with
    | nil => simp [exsLen] at hl
    | cons x xs =>
      cases xs with
      | cons _ _ => simp [exsLen] at hl
      | nil =>
        obtain ⟨e', h1, h2⟩ := g.one x rfl
        cases h1
        have hns := g.ns
        rw [List.all_cons, Bool.and_eq_true] at hns
        unfold noB at hb
        rw [Bool.and_eq_true, Bool.not_eq_true'] at hb
        exact piRevr q1 q2 q3 q4 h2.pe hb.1 hns.1
  · clear h
    rcases h0 with ⟨rfl, hx, a, rfl⟩ | ⟨rfl, hx, a, b, rfl⟩ | ⟨rfl, hx, a, b, c, rfl⟩ | ⟨rfl, hx, a, rfl⟩ | ⟨rfl, hx, ⟨a, b, rfl⟩, es, kk, pt, rfl⟩ | ⟨rfl, hx, ⟨a, rfl⟩, es, kk, pt, rfl⟩
    all_goals (
      obtain ⟨rfl, hg, hm⟩ := blN_ok W hx
      have ns := g.ns
      simp only [List.all_cons, List.all_nil, Bool.and_true, Bool.and_eq_true] at ns)
    · exact piR1 hg hm g.pa ns hb
    · exact piR2 hg hm g.pa ns.1 ns.2 hb
    · exact piRd hg hm g.pa ns.1 ns.2.1 ns.2.2 hb
    · exact piRev hg hm g.pa ns hb
    · exact piZip hg hm g.pa ns.1 ns.2 hb
    · exact piEnum hg hm g.pa ns hb
theorem visOwn {N : List Str} {own : List Nat} (hi : ∀ i ∈ own, i < N.length) : ((own.map fun i => (N.getD i default, i)).map (·.2)) = own := by
  rw [List.map_map]
  exact (List.map_congr_left fun i _ => rfl).trans (List.map_id own)
variable {z : Zc} {P : Tb} {G : List D} {k : Nat}
mutual
theorem okE : ∀ (x : Ex) (z : Zc) (X : Cx) (e : Expr), Wd X z P G k → ckE z X.env.scope x e = true → Good z X P G x e
  | .var i, z, X, e, W, h => by
    unfold ckE at h
    split at h
    · obtain ⟨h1, h2, h3, h4⟩ := atN_ok W h
      exact .val (peV h1 h2 h3 h4) rfl rfl
    · cases h
  | .bvar i, z, X, e, W, h => by
    unfold ckE at h
    split at h
    · obtain ⟨h1, h2, h3, h4⟩ := atN_ok W h
      exact ⟨peB h1 h2 h3 h4, fun z => (by cases z), fun _ _ _ z => (by cases z), fun z => (by cases z)⟩
    · cases h
  | .int i, z, X, e, W, h => by
    unfold ckE at h
    split at h
    · obtain rfl := of_decide_eq_true h
      exact .val (peC pe_int (fun _ => .int _) rfl fun _ => rfl) rfl rfl
    · cases h
  | .str x, z, X, e, W, h => by
    unfold ckE at h
    split at h
    · obtain rfl := of_decide_eq_true h
      exact .val (peC pe_str (fun _ => .str _) rfl fun _ => rfl) rfl rfl
    · cases h
  | .non, z, X, e, W, h => by
    unfold ckE at h
    split at h
    · exact .val (peC pe_non (fun _ => .non) rfl fun _ => rfl) rfl rfl
    · cases h
  | .bl b, z, X, e, W, h => by
    unfold ckE at h
    split at h
    · obtain rfl := of_decide_eq_true h
      exact .val (peC pe_bl (fun _ => .bl _) rfl fun _ => rfl) rfl rfl
    · cases h
  | .gc g, z, X, e, W, h => by
    unfold ckE at h
    split at h
    · rw [Bool.and_eq_true, decide_eq_true_eq] at h
      obtain ⟨hd, u, v, d, h1, h2, h3, h4⟩ := W.gc g _ h.1
      exact .val (peC (pe_glob (gl_of h.2) h1 h2 hd) h4 rfl fun en => by unfold ev; rw [h3]) rfl rfl
    · cases h
  | .tup es, z, X, e, W, h => by
    unfold ckE at h
    split at h
    · rw [Bool.and_eq_true, Bool.and_eq_true, decide_eq_true_eq] at h
      exact .val (peTup (okA es _ X _ W h.1.1).pa h.1.2 h.2) rfl rfl
    · cases h
  | .lst es, z, X, e, W, h => by
    unfold ckE at h
    split at h
    · rw [Bool.and_eq_true, Bool.and_eq_true, decide_eq_true_eq] at h
      exact .own (peLst (okA es _ X _ W h.1.1).pa h.1.2 h.2) rfl rfl
    · cases h
  | .bin op a b, z, X, e, W, h => by
    unfold ckE at h
    split at h
    · simp only [Bool.and_eq_true, decide_eq_true_eq, Bool.or_eq_true, Bool.not_eq_true'] at h
      obtain ⟨⟨⟨rfl, h2⟩, h3⟩, h4⟩ := h
      exact .own (peBinO (okE a _ X _ W h2).pe (okE b _ X _ W h3).pe h4) rfl rfl
    · cases h
  | .neg a, z, X, e, W, h => by
    unfold ckE at h
    split at h
    · simp only [Bool.and_eq_true, Bool.not_eq_true'] at h
      exact .val (peNeg (okE a _ X _ W h.1).pe h.2) rfl rfl
    · cases h
  | .not a, z, X, e, W, h => by
    unfold ckE at h
    split at h
    · simp only [Bool.and_eq_true, Bool.not_eq_true'] at h
      exact ⟨peNot (okE a _ X _ W h.1).pe h.2, fun _ => ptNot ((okE a _ X _ W h.1).pt h.2), fun _ _ _ q => (by cases q), fun q => (by cases q)⟩
    · cases h
  | .cmp op a b, z, X, e, W, h => by
    unfold ckE at h
    split at h
    · simp only [Bool.and_eq_true, decide_eq_true_eq, Bool.or_eq_true, Bool.not_eq_true'] at h
      obtain ⟨⟨⟨⟨rfl, h2⟩, h3⟩, h4⟩, h5⟩ := h
      have hu : X.A.units + 80 < cLine := by have := W.room.un; omega
      exact ⟨peCmp (op_cmp hu op) (okE a _ X _ W h2).pe (okE b _ X _ W h3).pe h4 h5, fun _ => ptCmp (op_cmp hu op) (okE a _ X _ W h2).pe (okE b _ X _ W h3).pe h4 h5, fun _ _ _ q => (by cases q), fun q => (by cases q)⟩
    · cases h
  | .chain op op' a b c, z, X, e, W, h => by
    unfold ckE at h
    split at h
    · simp only [Bool.and_eq_true, decide_eq_true_eq, Bool.not_eq_true'] at h
      obtain ⟨⟨⟨⟨⟨⟨⟨⟨rfl, rfl⟩, h3⟩, h4⟩, h5⟩, h6⟩, h7⟩, h8⟩, h9⟩ := h
      have hu : X.A.units + 80 < cLine := by have := W.room.un; omega
      exact ⟨peChain (op_cmp hu op) (op_cmp hu op') (okE a _ X _ W h3).pe (okE b _ X _ W h4).pe (okE c _ X _ W h5).pe h6 h7 h8 h9, fun _ => ptChain (op_cmp hu op) (op_cmp hu op') (okE a _ X _ W h3).pe (okE b _ X _ W h4).pe (okE c _ X _ W h5).pe h6 h7 h8 h9,
        fun _ _ _ q => (by cases q), fun q => (by cases q)⟩
    · cases h
  | .and a b, z, X, e, W, h => by
    unfold ckE at h
    split at h
    · simp only [Bool.and_eq_true, Bool.not_eq_true'] at h
      obtain ⟨⟨⟨h1, h2⟩, h3⟩, h4⟩ := h
      have ga := okE a _ X _ W h1
      split at h4
      · have gb := okE b _ X _ W h4
        exact ⟨peAnd ga.pe (pe_one gb.pe) h2 h3, fun _ => (pwAnd (ga.pt h2) (pw1 (gb.pt h3))).pt, fun _ _ _ q => (by cases q; exact pwAnd (ga.pt h2) (pw1 (gb.pt h3))), fun q => (by cases q)⟩
      · have gb := okE b _ X _ W h4
        have w := pwAnd (ga.pt h2) (gb.pw _ _ _ rfl)
        exact ⟨peAnd ga.pe gb.pe h2 h3, fun _ => w.pt, fun _ _ _ q => (by cases q; exact w), fun q => (by cases q)⟩
    · cases h
  | .or a b, z, X, e, W, h => by
    unfold ckE at h
    split at h
    · simp only [Bool.and_eq_true, Bool.not_eq_true'] at h
      obtain ⟨⟨⟨h1, h2⟩, h3⟩, h4⟩ := h
      have ga := okE a _ X _ W h1
      split at h4
      · have gb := okE b _ X _ W h4
        exact ⟨peOr ga.pe (pe_one gb.pe) h2 h3, fun _ => (pwOr (ga.pt h2) (pw1 (gb.pt h3))).pt, fun _ _ _ q => (by cases q; exact pwOr (ga.pt h2) (pw1 (gb.pt h3))), fun q => (by cases q)⟩
      · have gb := okE b _ X _ W h4
        have w := pwOr (ga.pt h2) (gb.pw _ _ _ rfl)
        exact ⟨peOr ga.pe gb.pe h2 h3, fun _ => w.pt, fun _ _ _ q => (by cases q; exact w), fun q => (by cases q)⟩
    · cases h
  | .ite c a b, z, X, e, W, h => by
    unfold ckE at h
    split at h
    · simp only [Bool.and_eq_true, Bool.not_eq_true'] at h
      obtain ⟨⟨⟨⟨⟨h1, h2⟩, h3⟩, h4⟩, h5⟩, h6⟩ := h
      have gc := okE c _ X _ W h1
      have ga := okE a _ X _ W h2
      have gb := okE b _ X _ W h3
      exact ⟨peIf (gc.pt h4) ga.pe gb.pe h5 h6, fun _ => ptIf (gc.pt h4) (ga.pt h5) (gb.pt h6), fun _ _ _ q => (by cases q), fun q => by
        unfold isO at q
        rw [Bool.and_eq_true] at q
        exact peIfO (gc.pt h4) (ga.po q.1) (gb.po q.2)⟩
    · cases h
  | .call f es, z, X, e, W, h => by
    unfold ckE at h
    split at h
    · rename_i _ _ l _
      simp only [Bool.and_eq_true] at h
      obtain ⟨⟨⟨h1, h2⟩, h3⟩, h4⟩ := h
      have ga := okA es _ X _ W h4
      split at h1
      · rename_i p hf
        obtain ⟨md, nm, n, o⟩ := p
        simp only [Bool.and_eq_true, decide_eq_true_eq] at h1
        obtain ⟨⟨rfl, rfl⟩, h1⟩ := h1
        obtain ⟨hd, a, fd, ps, q1, q2, q3, q4, q5, q6⟩ := W.fs f _ n o hf
        have hns := ga.ns
        have hln := ga.len
        have hpa := ga.pa
        have hr := W.room.mono (Nat.le_succ _)
        clear ga h4
        cases l with
        | nil =>
          cases es with
          | nil =>
            cases o with
            | dat => exact .val (peCall0 q3 hr (gl_of h2) q1 q2 q4 q5 q6 hd) rfl (by show (match z.fs[f]? with | some p => isOw' p.2.2.2 | none => false) = false; rw [hf]; rfl)
            | ow => exact .own (peCall0O q3 hr (gl_of h2) q1 q2 q4 q5 q6 hd) rfl rfl
            | ini => exact absurd rfl h1
          | cons _ _ => simp [exsLen] at hln
        | cons y l =>
          cases o with
          | dat => exact .val (peCall q3 hr (gl_of h2) q1 q2 q4 q5 q6 h3 hns hd hpa) rfl (by show (match z.fs[f]? with | some p => isOw' p.2.2.2 | none => false) = false; rw [hf]; rfl)
          | ow => exact .own (peCallO q3 hr (gl_of h2) q1 q2 q4 q5 q6 h3 hns hd hpa) rfl rfl
          | ini => exact absurd rfl h1
      · cases h1
    · cases h
  | .fld c k a, z, X, e, W, h => by
    unfold ckE at h
    split at h
    · simp only [Bool.and_eq_true, Bool.not_eq_true'] at h
      obtain ⟨⟨⟨h1, h2⟩, h3⟩, h4⟩ := h
      split at h1
      · rename_i p hp
        obtain ⟨cn, fi, ns⟩ := p
        have h1 := of_decide_eq_true h1
        obtain ⟨_, c2, C, c3, c4, c5, c6, c7⟩ := W.cs c cn fi ns hp
        exact .val (peFld c3 c2 h1 c5 (c7 _ (List.mem_of_getElem? h1)) (okE a _ X _ W h2).pe h3 h4) rfl rfl
      · cases h1
    · cases h
  | .isc c a, z, X, e, W, h => by
    unfold ckE at h
    split at h
    · simp only [Bool.and_eq_true, Bool.not_eq_true'] at h
      obtain ⟨⟨⟨⟨⟨h1, h2⟩, h3⟩, h4⟩, h5⟩, h6⟩ := h
      obtain ⟨rfl, g1, m1⟩ := blN_ok W h1
      split at h2
      · rename_i p hp
        obtain ⟨cn, fi, ns⟩ := p
        obtain rfl := of_decide_eq_true h2
        obtain ⟨c1, c2, C, c3, c4, c5, c6, c7⟩ := W.cs c _ fi ns hp
        exact .val (peIsC c3 c6 (okE a _ X _ W h5).pe h6 h4 g1 m1 (gl_of h3) c4 c1) rfl rfl
      · cases h2
    · cases h
  | .make c f es, z, X, e, W, h => by
    unfold ckE at h
    split at h
    · simp only [Bool.and_eq_true] at h
      obtain ⟨⟨⟨h1, h2⟩, h3⟩, h4⟩ := h
      have ga := okA es _ X _ W h4
      split at h1
      · rename_i p q hp hq
        obtain ⟨cn, fi, ns⟩ := p
        obtain ⟨md, nm, n, o⟩ := q
        simp only [Bool.and_eq_true, decide_eq_true_eq] at h1
        obtain ⟨⟨rfl, rfl⟩, rfl⟩ := h1
        obtain ⟨c1, c2, C, c3, c4, c5, c6, c7⟩ := W.cs c _ fi ns hp
        obtain ⟨C', ns', d1, fa, fd, ps, d2, d3, d4, d5, d6, d7⟩ := W.ms f c _ nm n _ hq
        rw [c3] at d1
        cases d1
        exact .val (peMake c3 (d3 rfl) d4 W.room (gl_of h2) c4 d5 d6 h3 ga.ns c1 ga.pa) rfl rfl
      · cases h1
    · cases h
  | .mdef mx a d, z, X, e, W, h => by
    unfold ckE at h
    split at h
    · simp only [Bool.and_eq_true, Bool.not_eq_true', decide_eq_true_eq] at h
      obtain ⟨⟨⟨⟨⟨⟨rfl, h2⟩, h3⟩, h4⟩, h5⟩, h6⟩, h7⟩ := h
      obtain ⟨rfl, g1, m1⟩ := blN_ok W h2
      have hu : X.A.units + 80 < cLine := by have := W.room.un; omega
      exact .val (peMdef W.calm hu g1 m1 (okE a _ X _ W h4).pe (okE d _ X _ W h6).pe h5 h7 h3) rfl rfl
    · cases h
  | .kmax src js nms body, z, X, e, W, h => by
    unfold ckE at h
    split at h
    · rename_i x p1 u k params b scope lpos kpos pos a fr
      simp only [Bool.and_eq_true, Bool.not_eq_true', decide_eq_true_eq] at h
      obtain ⟨⟨⟨⟨⟨⟨⟨⟨⟨⟨⟨⟨rfl, h2⟩, h3⟩, h4⟩, h5⟩, h6⟩, h7⟩, h8⟩, h9⟩, h10⟩, h11⟩, h12⟩, h13⟩ := h
      obtain ⟨rfl, g1, m1⟩ := blN_ok W h2
      have hu : X.A.units + 80 < cLine := by have := W.room.un; omega
      obtain ⟨⟨c, Pt, l1, l2, l3, l4⟩, hr5⟩ := W.lam h3
      have S : NdefX.NScope (a :: fr) [a] fr scope := NdefX.nscope_by h8
      have hfr : ∀ y ∈ fr, (y, NameKind.free) ∈ scope.names := fun y hy => PySem.mem_of_lookup (S.frk y hy)
      have hjs : js.map (fun j => X.N[j]?) = fr.map some := by rw [W.eqN]; exact h10
      have hlen : (a :: fr).length = js.length + 1 := by
        have := congrArg List.length h10
        rw [List.length_map, List.length_map] at this
        rw [List.length_cons]; omega
      have hall := List.all_eq_true.mp h11
      refine .val (peImp (pe_keymax (k := k + 1) (T := Wx.tabs) (te := tE X.K P G src) (t := tE X.K P G body) g1 m1 W.calm hu hr5 (okE src _ X _ W h5).pe h4 l2 l1 l3 l4 (onePB_def h7 _) (freeB_ok h9) hfr hjs S (onePB_bind h7 b scope) fun cl c' f A outer s H1 E hr => ?_) fun σ H Q hh => kmax_core h6 h13 hlen hh) rfl rfl
      have W2 : Wd (NdefX.ncx C8.CX0 X.prog X.w X.K X.mg X.base (a :: fr) (lamF (X.env.qual ++ "<lambda>") params scope cl c') f A outer s H1 E) { z with N := a :: fr, lam := false } P G k :=
        ⟨rfl, S.nd, rfl, fun x hx => nmB_ok (hall x hx), W.nb, W.gc, W.fs, W.ms, W.cs, W.as, fun q => (nomatch q), hr⟩
      exact (okE body _ _ _ W2 h12).pe
    · cases h
  | .asked x ak hs co f es, z, X, e, W, h => by
    unfold ckE at h
    split at h
    · rename_i x' p1 ps y py w l pc scope lpos pos
      simp only [Bool.and_eq_true, decide_eq_true_eq] at h
      obtain ⟨⟨⟨⟨⟨⟨⟨⟨⟨rfl, h2⟩, h3⟩, h4⟩, h5⟩, h6⟩, h7⟩, h8⟩, h9⟩, h10⟩ := h
      have hA := W.as x' ak hs (by simpa using h4)
      obtain ⟨hL, hr5⟩ := W.lam h3
      unfold callOf at h7
      split at h7
      · rename_i p hf
        obtain ⟨md, nm, n, o⟩ := p
        simp only [Bool.and_eq_true, decide_eq_true_eq] at h7
        obtain ⟨⟨rfl, rfl⟩, rfl⟩ := h7
        obtain ⟨hd, a, fd, ps', q1, q2, q3, q4, q5, q6⟩ := W.fs f _ n _ hf
        refine .val (peAsk (k := k + 1) (t := fun E => tCall (spF X.K P f n .dat) [] E (tA X.K P G es)) hA hL (gl_of h2) hr5 h5 h6 (fun A outer s H E f' c' hr => ?_) fun E σ H1 Q' en φ ds e1 ok f1 _ hh => askF (k := k) q5 q6 h9 ok f1 hh) rfl rfl
        have ga := okA es _ (LamX.lamCx X A outer s H E scope f' c') _ (W.lamC hr) h10
        have hs := ga.ns
        rw [List.all_cons, Bool.and_eq_true] at hs
        exact pe_call q3 (hr.mono (by omega)) (gl_of h8) q1 q2 q4 .nil (passes_call (takes_of rfl rfl rfl rfl) fun _ _ _ _ h => h) ga.pa hd (star1 hs.1) (starAny hs.2)
      · rename_i c q hq
        split at h7
        · rename_i p hp
          obtain ⟨cn, fi, ns⟩ := p
          obtain ⟨md, nm, n, o⟩ := q
          simp only [Bool.and_eq_true, decide_eq_true_eq] at h7
          obtain ⟨⟨rfl, rfl⟩, rfl⟩ := h7
          obtain ⟨c1, c2, C, c3, c4, c5, c6, c7⟩ := W.cs c _ fi ns hp
          obtain ⟨C', ns', d1, fa, fd, ps, d2, d3, d4, d5, d6, d7⟩ := W.ms f c _ nm n _ hq
          rw [c3] at d1
          cases d1
          refine .val (peAsk (k := k + 1) (t := fun E => tMake C (spF X.K P f n .ini) [] E (tA X.K P G es)) hA hL (gl_of h2) hr5 h5 h6 (fun A outer s H E f' c' hr => ?_) fun E σ H1 Q' en φ ds e1 ok f1 _ hh => askC (k := k) c3 d6 d7 h9 ok f1 hh) rfl rfl
          have ga := okA es _ (LamX.lamCx X A outer s H E scope f' c') _ (W.lamC hr) h10
          have hs := ga.ns
          rw [List.all_cons, Bool.and_eq_true] at hs
          exact pe_make (d3 rfl) d4 (hr.mono (by omega)) (gl_of h8) c4 d5 .nil (passes_call (takes_of rfl rfl rfl rfl) fun _ _ _ _ h => h) ga.pa c1 (star1 hs.1) (starAny hs.2)
        · cases h7
      · cases h7
    · cases h
  | .meth c f es, z, X, e, W, h => by
    unfold ckE at h
    split at h
    · rename_i o m ap l p
      simp only [Bool.and_eq_true] at h
      obtain ⟨⟨⟨⟨⟨h1, h2⟩, h3⟩, h4⟩, h5⟩, h6⟩ := h
      have ga := okA es _ X _ W h6
      split at h1
      · rename_i cp q hp hq
        obtain ⟨cn, fi, ns⟩ := cp
        obtain ⟨md, nm, n, oo⟩ := q
        simp only [Bool.and_eq_true, decide_eq_true_eq, Bool.not_eq_true'] at h1
        obtain ⟨⟨rfl, rfl⟩, hm⟩ := h1
        obtain ⟨c1, c2, C, c3, c4, c5, c6, c7⟩ := W.cs c _ fi ns hp
        obtain ⟨C', ns', d1, fa, fd, ps, d2, d3, d4, d5, d6, d7⟩ := W.ms f c _ nm n _ hq
        rw [c3] at d1
        cases d1
        have hm' : m ∉ ns := by simpa using hm
        have hr := W.room.mono (Nat.le_succ _)
        cases es with
        | nil => have := ga.len; simp [exsLen] at this
        | cons x xs =>
          obtain ⟨e0, es0, e1, g0, g1, g2, g3⟩ := ga.hd x xs rfl
          cases e1
          unfold noB at h2
          rw [Bool.and_eq_true, Bool.not_eq_true'] at h2
          have hln := ga.len
          clear ga h6
          cases l with
          | nil =>
            cases xs with
            | cons _ _ => simp [exsLen] at hln
            | nil => exact .val (peMeth0 c3 hm' c5 (d2 (by decide)) d4 hr d5 d6 h2.1 h3 h4 g0.pe) rfl rfl
          | cons y l => exact .val (peMeth c3 hm' c5 (d2 (by decide)) d4 hr d5 d6 h2.1 h2.2 h3 h4 g2 (of_decide_eq_true h5) g0.pe g1) rfl rfl
      · cases h1
    · cases h
  | .om2 i a b, z, X, e, W, h => by
    unfold ckE at h
    split at h
    · simp only [Bool.and_eq_true, Bool.not_eq_true'] at h
      obtain ⟨⟨⟨⟨⟨⟨⟨⟨h1, h2⟩, h3⟩, h4⟩, h5⟩, h6⟩, h7⟩, h8⟩, h9⟩ := h
      obtain ⟨n1, n2, n3, n4⟩ := atN_ok W h1
      exact .val (peOm2 n1 n2 n3 n4 (okE a _ X _ W h2).pe h4 h8 h6 (okE b _ X _ W h3).pe h5 h9 h7) rfl rfl
    · cases h
  | .pop i first, z, X, e, W, h => by
    unfold ckE at h
    split at h
    · simp only [Bool.and_eq_true, decide_eq_true_eq] at h
      obtain ⟨⟨⟨rfl, h2⟩, h3⟩, h4⟩ := h
      obtain ⟨n1, n2, n3, n4⟩ := atN_ok W h2
      split at h4
      · exact .val (pePopL (peB n1 n2 n3 n4) h3) rfl rfl
      · obtain rfl := of_decide_eq_true h4
        exact .val (pePopF (peB n1 n2 n3 n4) h3) rfl rfl
      · cases h4
    · cases h
  | .prim p es, z, X, e, W, h => by
    unfold ckE at h
    have hu : X.A.units + 65 < cLine := by have := W.room.un; omega
    split at h
    · simp only [Bool.and_eq_true, decide_eq_true_eq] at h
      obtain ⟨⟨⟨⟨rfl, h2⟩, h3⟩, h4⟩, h5⟩ := h
      have ga := okA es _ X _ W h5
      unfold two at h4
      split at h4
      · rename_i x y
        rw [Bool.and_eq_true, Bool.or_eq_true, Bool.not_eq_true', Bool.not_eq_true'] at h4
        obtain ⟨e0, es0, e1, g0, g1, g2, g3⟩ := ga.hd _ _ rfl
        cases e1
        obtain ⟨e3, es3, e4, k0, k1, k2, k3⟩ := ga.tl _ _ rfl _ _ rfl
        cases e4
        exact .val (peIndex hu g0.pe k0.pe h4.1 h4.2 h3 k3 h2) rfl rfl
      · cases h4
    · simp only [Bool.and_eq_true, decide_eq_true_eq] at h
      obtain ⟨⟨⟨⟨rfl, h2⟩, h3⟩, h4⟩, h5⟩ := h
      have ga := okA es _ X _ W h5
      unfold two at h4
      split at h4
      · rename_i x y
        rw [Bool.and_eq_true, Bool.or_eq_true, Bool.not_eq_true', Bool.not_eq_true'] at h4
        obtain ⟨e0, es0, e1, g0, g1, g2, g3⟩ := ga.hd _ _ rfl
        cases e1
        obtain ⟨e3, es3, e4, k0, k1, k2, k3⟩ := ga.tl _ _ rfl _ _ rfl
        cases e4
        exact .val (peCount g0.pe k0.pe h4.1 h4.2 h3 k3 h2) rfl rfl
      · cases h4
    · simp only [Bool.and_eq_true] at h
      obtain ⟨⟨⟨h1, h2⟩, h3⟩, h4⟩ := h
      obtain ⟨rfl, g1, m1⟩ := blN_ok W h1
      obtain ⟨rfl, g2, m2⟩ := blN_ok W h2
      have ga := okA es _ X _ W h4
      have hln := ga.len
      cases es with
      | nil => simp [exsLen] at hln
      | cons x xs =>
        cases xs with
        | cons _ _ => simp [exsLen] at hln
        | nil =>
          obtain ⟨e0, e1, g0⟩ := ga.one x rfl
          cases e1
          have ns := ga.ns
          simp only [List.all_cons, List.all_nil, Bool.and_true] at ns
          unfold noB at h3
          rw [Bool.and_eq_true, Bool.not_eq_true'] at h3
          exact .own (peRl1 W.calm g1 m1 g2 m2 g0.pe h3.1 ns) rfl rfl
    · simp only [Bool.and_eq_true] at h
      obtain ⟨⟨⟨h1, h2⟩, h3⟩, h4⟩ := h
      obtain ⟨rfl, g1, m1⟩ := blN_ok W h1
      obtain ⟨rfl, g2, m2⟩ := blN_ok W h2
      have ga := okA es _ X _ W h4
      have hln := ga.len
      cases es with
      | nil => simp [exsLen] at hln
      | cons x xs =>
        cases xs with
        | nil => simp [exsLen] at hln
        | cons y ys =>
          cases ys with
          | cons _ _ => simp [exsLen] at hln
          | nil =>
            obtain ⟨e0, es0, e1, k0, k1, k2, k3⟩ := ga.hd _ _ rfl
            cases e1
            obtain ⟨e3, es3, e4, l0, l1, l2, l3⟩ := ga.tl _ _ rfl _ _ rfl
            cases e4
            unfold noB noB at h3
            simp only [Bool.and_eq_true, Bool.not_eq_true'] at h3
            exact .own (peRl2 W.calm g1 m1 g2 m2 k0.pe h3.1 k3 l0.pe h3.2.1 l3) rfl rfl
    · cases h
  | .blt f es, z, X, e, W, h => by
    unfold ckE at h
    split at h
    · simp only [Bool.and_eq_true, Bool.or_eq_true] at h
      obtain ⟨⟨h1, h2⟩, h3⟩ := h
      obtain ⟨rfl, hg, hm⟩ := blN_ok W h1
      have ga := okA es _ X _ W h3
      have hu : X.A.units + 80 < cLine := by have := W.room.un; omega
      have hr : CallR X (bfVal f) (rC X.K f) := by
        by_cases hs : f = .sorted
        · subst hs; exact cr_sorted hu
        · by_cases hs1 : f = .min1
          · subst hs1; exact cr_min1 W.calm hu
          · by_cases hs2 : f = .max1
            · subst hs2; exact cr_max1 W.calm hu
            · exact cr_bfn W.calm f hs hs1 hs2
      exact .own (peBltO hr hg hm ga.pa ga.ns h2) rfl rfl
    · cases h
  | .isi a ty, z, X, e, W, h => by
    unfold ckE at h
    split at h
    · simp only [Bool.and_eq_true] at h
      obtain ⟨⟨⟨h1, h2⟩, h3⟩, h4⟩ := h
      obtain ⟨rfl, g1, m1⟩ := blN_ok W h1
      obtain ⟨rfl, g2, m2⟩ := blN_ok W h2
      exact .val (peIsi (okE a _ X _ W h4).pe h3 g1 m1 g2 m2) rfl rfl
    · cases h
  | .sub a i, z, X, e, W, h => by
    unfold ckE at h
    split at h
    · simp only [Bool.and_eq_true, Bool.or_eq_true, Bool.not_eq_true'] at h
      obtain ⟨⟨⟨h1, h2⟩, h3⟩, h4⟩ := h
      exact .val (peSub (okE a _ X _ W h1).pe (okE i _ X _ W h2).pe h3 h4) rfl rfl
    · cases h
  | .slice a lo hi, z, X, e, W, h => by
    unfold ckE at h
    split at h
    · simp only [Bool.and_eq_true, Bool.or_eq_true, Bool.not_eq_true'] at h
      obtain ⟨⟨⟨h1, h2⟩, h3⟩, h4⟩ := h
      refine .val (peSlice (okE a _ X _ W h1).pe ?_ ?_ h2) rfl rfl
      · split at h3
        · cases lo <;> first | (cases h3; done) | trivial
        · simp only [Bool.and_eq_true, Bool.not_eq_true'] at h3
          have q : isB lo = false ∧ isNop lo = false ∧ PE X _ (tE X.K P G lo) := ⟨h3.1.2, h3.2, (okE lo _ X _ W h3.1.1).pe⟩
          cases lo <;> exact q
      · split at h4
        · cases hi <;> first | (cases h4; done) | trivial
        · simp only [Bool.and_eq_true, Bool.not_eq_true'] at h4
          have q : isB hi = false ∧ isNop hi = false ∧ PE X _ (tE X.K P G hi) := ⟨h4.1.2, h4.2, (okE hi _ X _ W h4.1.1).pe⟩
          cases hi <;> exact q
    · cases h
  | .lk i a, z, X, e, W, h => by
    unfold ckE at h
    rw [Bool.and_eq_true, Bool.and_eq_true, Bool.and_eq_true] at h
    exact .own (peLk ((okE a _ X _ W h.2).po h.1.1.1)) rfl h.1.2
  | .trev a, z, X, e, W, h => by
    unfold ckE at h
    split at h
    · simp only [Bool.and_eq_true, Bool.not_eq_true'] at h
      obtain ⟨⟨⟨⟨h1, h2⟩, h3⟩, h4⟩, h5⟩ := h
      obtain ⟨rfl, g1, m1⟩ := blN_ok W h1
      obtain ⟨rfl, g2, m2⟩ := blN_ok W h2
      exact .val (peTrev W.calm g1 m1 g2 m2 (okE a _ X _ W h3).pe h4 h5) rfl rfl
    · cases h
  | .sset a, z, X, e, W, h => by
    unfold ckE at h
    split at h
    · simp only [Bool.and_eq_true, Bool.not_eq_true'] at h
      obtain ⟨⟨⟨⟨h1, h2⟩, h3⟩, h4⟩, h5⟩ := h
      obtain ⟨rfl, g1, m1⟩ := blN_ok W h1
      obtain ⟨rfl, g2, m2⟩ := blN_ok W h2
      exact .own (peSset W.calm g1 m1 g2 m2 (okE a _ X _ W h3).pe h4 h5) rfl rfl
    · cases h
  | .dnew, z, X, e, W, h => by
    unfold ckE at h
    split at h
    · exact .own peDnew rfl rfl
    · cases h
  | .dsub a i, z, X, e, W, h => by
    unfold ckE at h
    split at h
    · simp only [Bool.and_eq_true, Bool.or_eq_true, Bool.not_eq_true'] at h
      obtain ⟨⟨⟨⟨h1, h2⟩, h3⟩, h4⟩, h5⟩ := h
      have hu : X.A.units + 1 < cLine := by have := W.room.un; omega
      exact .val (peDsub hu (okE a _ X _ W h1).pe (okE i _ X _ W h2).pe h3 h4 h5) rfl rfl
    · cases h
  | .nop, z, X, e, W, h => by unfold ckE at h; cases h
  | .bad, z, X, e, W, h => .bad
  | .lc own pt sk src cnd elt, z, X, e, W, h => by
    unfold ckE at h
    split at h
    · rename_i el g scope pos
      simp only [Bool.and_eq_true, decide_eq_true_eq, Bool.not_eq_true', List.all_eq_true] at h
      obtain ⟨⟨⟨⟨⟨⟨⟨⟨⟨⟨⟨h1, h2⟩, h3⟩, h4⟩, h5⟩, h6⟩, h7⟩, h8⟩, h9⟩, h10⟩, h11⟩, h12⟩ := h
      obtain ⟨tg, iter, ifs, asy⟩ := g
      dsimp only at h1 h6 h7 h8 h9
      subst h1
      split at h8
      · rename_i l hl
        rw [Bool.and_eq_true] at h8
        have hi := src_ok W hl (okA src _ X l W h8.1) h8.2
        have hix : ∀ i ∈ own, i < X.N.length := by rw [W.eqN]; exact h4
        refine .own (peLcO (own := own) (ownP := ownNs z own) W.calm (by rw [W.eqN]; exact W.nd) hi (by rw [W.eqN]; exact blkOk_by h2) (visOwn h4) (fun i hi => by simpa using h3 i hi) hix h5 (by rw [W.eqN]; exact h6) (fun s H C cl fp => ?_) (fun s H C cl fp => ?_) h7) rfl rfl
        · have gc := okA cnd _ (X.blk s H scope (compEnvC scope cl C X.env) fp) ifs (W.blk _ _ _ _ _ _) h9
          have hln := gc.len
          cases cnd with
          | nil =>
            cases ifs with
            | nil => exact ptsN
            | cons _ _ => simp [exsLen] at hln
          | cons c cs =>
            cases cs with
            | cons _ _ => simp [exsLen] at h11
            | nil =>
              obtain ⟨y, rfl, gy⟩ := gc.one c rfl
              refine pts1 (gy.pt ?_)
              unfold noB at h10
              rw [Bool.and_eq_true, Bool.not_eq_true'] at h10
              exact h10.1
        · exact (okE elt _ (X.blk s H scope (compEnvC scope cl C X.env) fp) el (W.blk _ _ _ _ _ _) h12).pe
      · cases h8
    · cases h
  | .lcm own pt sk src cnd elt, z, X, e, W, h => by
    unfold ckE at h
    split at h
    · rename_i el g scope pos
      simp only [Bool.and_eq_true, decide_eq_true_eq, Bool.not_eq_true', List.all_eq_true] at h
      obtain ⟨⟨⟨⟨⟨⟨⟨⟨⟨⟨⟨h1, h2⟩, h3⟩, h4⟩, h5⟩, h6⟩, h7⟩, h8⟩, h9⟩, h10⟩, h11⟩, h12⟩ := h
      obtain ⟨tg, iter, ifs, asy⟩ := g
      dsimp only at h1 h6 h7 h8 h9
      subst h1
      split at h8
      · rename_i l hl
        rw [Bool.and_eq_true] at h8
        have hi := src_ok W hl (okA src _ X l W h8.1) h8.2
        have hix : ∀ i ∈ own, i < X.N.length := by rw [W.eqN]; exact h4
        refine .lcm_of (.own (peLcO (own := own) (ownP := ownNs z own) W.calm (by rw [W.eqN]; exact W.nd) hi (by rw [W.eqN]; exact blkOk_by h2) (visOwn h4) (fun i hi => by simpa using h3 i hi) hix h5 (by rw [W.eqN]; exact h6) (fun s H C cl fp => ?_) (fun s H C cl fp => ?_) h7) rfl rfl)
        · have gc := okA cnd _ (X.blk s H scope (compEnvC scope cl C X.env) fp) ifs (W.blk _ _ _ _ _ _) h9
          have hln := gc.len
          cases cnd with
          | nil =>
            cases ifs with
            | nil => exact ptsN
            | cons _ _ => simp [exsLen] at hln
          | cons c cs =>
            cases cs with
            | cons _ _ => simp [exsLen] at h11
            | nil =>
              obtain ⟨y, rfl, gy⟩ := gc.one c rfl
              refine pts1 (gy.pt ?_)
              unfold noB at h10
              rw [Bool.and_eq_true, Bool.not_eq_true'] at h10
              exact h10.1
        · exact (okE elt _ (X.blk s H scope (compEnvC scope cl C X.env) fp) el (W.blk _ _ _ _ _ _) h12).pe
      · cases h8
    · cases h
  | .lc2 own pt sk src cnd vs pt1 sk1 src1 cnd1 elt, z, X, e, W, h => by
    unfold ckE at h
    split at h
    · rename_i el g g1 scope pos
      simp only [Bool.and_eq_true, decide_eq_true_eq, Bool.not_eq_true', List.all_eq_true] at h
      obtain ⟨⟨⟨⟨⟨⟨⟨⟨⟨⟨⟨⟨⟨⟨⟨⟨⟨⟨⟨⟨h1, h1'⟩, h2⟩, h3⟩, h3'⟩, hv⟩, h4⟩, h5⟩, h6⟩, h6'⟩, h7⟩, h7'⟩, h8⟩, h8'⟩, h9⟩, h10⟩, h11⟩, h9'⟩, h10'⟩, h11'⟩, h12⟩ := h
      obtain ⟨tg, iter, ifs, asy⟩ := g
      obtain ⟨tg1, iter1, ifs1, asy1⟩ := g1
      dsimp only at h1 h1' h6 h6' h7 h7' h8 h8' h9 h9'
      subst h1
      subst h1'
      split at h8
      · rename_i l hl
        split at h8'
        · rename_i l1 hl1
          rw [Bool.and_eq_true] at h8 h8'
          have hi := src_ok W hl (okA src _ X l W h8.1) h8.2
          have hix : ∀ i ∈ own, i < X.N.length := by rw [W.eqN]; exact h4
          exact .own (peLc2O (own := own) (ownP := ownNs z own) W.calm (by rw [W.eqN]; exact W.nd) hi (by rw [W.eqN]; exact blkOk_by h2) (visOwn h4) (fun i hi => by simpa using h3 i hi) (fun i hi => by simpa using h3' i hi) (fun i hi => by simpa using hv i hi) hix h5 (by rw [W.eqN]; exact h6) (by rw [W.eqN]; exact h6')
            (fun s H C cl fp => pts_ok (okA cnd _ (X.blk s H scope (compEnvC scope cl C X.env) fp) ifs (W.blk _ _ _ _ _ _) h9) h10 h11)
            (fun s H C cl fp => src_ok (W.blk s H scope cl C fp) hl1 (okA src1 _ (X.blk s H scope (compEnvC scope cl C X.env) fp) l1 (W.blk _ _ _ _ _ _) h8'.1) h8'.2)
            (fun s H C cl fp => pts_ok (okA cnd1 _ (X.blk s H scope (compEnvC scope cl C X.env) fp) ifs1 (W.blk _ _ _ _ _ _) h9') h10' h11')
            (fun s H C cl fp => (okE elt _ (X.blk s H scope (compEnvC scope cl C X.env) fp) el (W.blk _ _ _ _ _ _) h12).pe) h7 h7') rfl rfl
        · cases h8'
      · cases h8
    · cases h
theorem okA : ∀ (xs : Exs) (z : Zc) (X : Cx) (es : List Expr), Wd X z P G k → ckA z X.env.scope xs es = true → GoodA z X P G xs es
  | .nil, z, X, es, W, h => by
    unfold ckA at h
    split at h
    · exact ⟨paN, rfl, rfl, fun _ q => (by cases q), fun _ _ q => (by cases q), fun _ _ q => (by cases q)⟩
    · cases h
  | .cons x xs, z, X, es, W, h => by
    unfold ckA at h
    split at h
    · rename_i e es'
      simp only [Bool.and_eq_true] at h
      obtain ⟨⟨h1, h2⟩, h3⟩ := h
      have g := okE x _ X _ W h2
      have ga := okA xs _ X _ W h3
      refine ⟨paC h1 g.pe ga.pa, ?_, congrArg (· + 1) ga.len, fun y hy => ?_, fun y ys hy => ?_, fun y ys hy u us hu => ?_⟩
      · rw [List.all_cons, h1, ga.ns]; rfl
      · cases hy
        have hl := ga.len
        refine ⟨_, ?_, g⟩
        cases es' with
        | nil => rfl
        | cons _ _ => simp [exsLen] at hl
      · cases hy
        exact ⟨_, _, rfl, g, ga.pa, ga.ns, h1⟩
      · cases hy
        exact ga.hd u us hu
    · cases h
end
end Vi

/-! Vi, part X1: what raises. -/
namespace Vi
open PySem PySem.Spec PyProof.Rows
open L2
variable [Wx]
section
variable {X : Cx} {P : Tb} {G : List D} {W : WX} {pos p : Pos}
theorem wip_env {K : PySem.W.Frag} {H H' : Hp} {σ σ' : L2.St} {en : En} {φ : Fp} (ok : EnvOk K H σ en φ) (hl : σ'.length = σ.length) (tb : LamX.Tabs Wx.tabs H') : EnvOk K H' σ' (wipA en) fun _ => [] := by
  refine ⟨by rw [hl, ok.len, wipA, List.length_replicate], fun i => ?_, fun i j a h _ => (by cases h), tb⟩
  have : getS (wipA en) i = .no := by
    unfold wipA getS
    rw [List.getD_eq_getElem?_getD, List.getElem?_replicate]
    split <;> rfl
  rw [this]
  exact (rfl : ([] : List Addr) = [])
theorem went_none {H H' : Hp} {φ : Fp} (h : Evo H (Own φ) H') : Went H φ H' fun _ => [] := ⟨h, fun _ ⟨_, h⟩ => by cases h⟩
theorem callS_of {sp : Sp} {E : L2.St → XK} {t : TA} {σ : L2.St} {H : Hp} {Q : VK} (h : tCall sp [] (E σ) t σ H Q) : tCallS sp E t σ H Q := by
  have h : t σ H fun vs H1 => sp (vs ++ []) H1 Q (E σ) := h
  simp only [List.append_nil] at h
  exact h
/-- a call that may raise, its arguments read -/
theorem callX_core {k f n : Nat} {xs : Exs} {σ : L2.St} {H : Hp} {Q : VK} {D0 : Ends} {as : List Nat} {en : En} {φ : Fp} {fl : Flow} {en' : En} {kk : D × List (List D) → En → Flow × En} (hP : ∀ sl r, P f sl = .ok r → sl.length = n ∧ r.2.length = ows sl) (hE : ∀ sl c p, P f sl = .exc c p → sl.length = n) (hl : lentOk (lentAt xs) = true)
    (ok : EnvOk X.K H σ en φ) (he : (do
      let r ← evs P G xs en
      let sl ← ofO (argsOf r.2 (lentAt xs) r.1)
      callX P f sl en fun q => kk q (putBack (lentAt xs) q.2 r.2)) = .ok (fl, en')) (q : PostS X.K W σ H φ as fl en' D0)
    (h : ∀ d os e1 v H', kk (d, os) (putBack (lentAt xs) os e1) = (fl, en') → EnvOk X.K H' σ (putBack (lentAt xs) os e1) φ → Evo H (Own φ) H' → Rep X.K H' v d → Q v H') : tCallS (spF X.K P f n .dat) (WE W) (tA X.K P G xs) σ H Q := by
  obtain ⟨⟨ds, e1⟩, f1, he1⟩ := Res.bind_ok he
  obtain ⟨sl, f2, he2⟩ := Res.bind_ok he1
  have f2 := ofO_ok f2
  unfold callX at he2
  refine callS_of (call_coreX (k := k) (o := .dat) (by decide) hP hE hl ok f1 f2 ?_)
  cases hr : P f sl with
  | ok r =>
    rw [hr] at he2
    obtain ⟨d, os⟩ := r
    have he2 := Res.ok.inj he2
    exact .inl ⟨d, os, rfl, fun v H' ok' ev' r => h d os e1 v H' he2 ok' ev' r⟩
  | exc c p =>
    rw [hr] at he2
    cases he2
    exact .inr ⟨c, p, rfl, fun cls d H' x ev' => q σ H' _ (wip_env ok rfl (ev'.tb ok.tb)) (went_none ev') (fun _ _ => rfl) cls d x⟩
  | bad => rw [hr] at he2; cases he2
section
variable {k f n : Nat} {nm : Str} {a : Addr} {fd : FuncData} {ps : List Str} {e : Expr} {es : List Expr} {xs : Exs} {q : Pos}
/-- f(..) as a statement -/
theorem psExprX (tk : Takes X W) (F : FnOk X.prog X.w X.K X.mg X.base (CX X.prog X.w) k a fd ps (spF X.K P f n .dat)) (hr : Room k X.A) (hg : Gl X nm) (hm : X.mg nm = some (.ref a)) (hk : PySem.W.keepIn X.K (.ref a) = true)
    (hb : Binds X.K fd ps []) (hP : ∀ sl r, P f sl = .ok r → sl.length = n ∧ r.2.length = ows sl) (hE : ∀ sl c p, P f sl = .exc c p → sl.length = n) (hl : lentOk (lentAt xs) = true) (hs : (e :: es).all noStar = true) (hd : (nm == ("__debug__" : Str)) = false) (ha : PA X (e :: es) (tA X.K P G xs)) :
    PS X (.Expr (.Call (.Name nm p) (e :: es) [] q) pos) (tS X.K P G W (.exprX f xs)) := by
  rw [List.all_cons, Bool.and_eq_true] at hs
  refine psLen (ps_expr (pe_callS F hr hg hm hk hb (passAt tk) ha hd (star1 hs.1) (starAny hs.2))) fun D σ H hσ h => ?_
  obtain ⟨en, φ, ok, fl, en', he, q⟩ := h
  unfold ex at he
  refine callX_core (k := k) (kk := fun q e => (.nx, e)) hP hE hl ok he q fun d os e1 v H' e2 ok' ev' r => ?_
  cases e2
  exact q σ H' φ ok' (.of ev') fun _ _ => rfl
/-- return f(..) -/
theorem psRetX (tk : Takes X W) (F : FnOk X.prog X.w X.K X.mg X.base (CX X.prog X.w) k a fd ps (spF X.K P f n .dat)) (hr : Room k X.A) (hg : Gl X nm) (hm : X.mg nm = some (.ref a)) (hk : PySem.W.keepIn X.K (.ref a) = true)
    (hb : Binds X.K fd ps []) (hP : ∀ sl r, P f sl = .ok r → sl.length = n ∧ r.2.length = ows sl) (hE : ∀ sl c p, P f sl = .exc c p → sl.length = n) (hl : lentOk (lentAt xs) = true) (hs : (e :: es).all noStar = true) (hd : (nm == ("__debug__" : Str)) = false) (ha : PA X (e :: es) (tA X.K P G xs)) :
    PS X (.Return (some (.Call (.Name nm p) (e :: es) [] q)) pos) (tS X.K P G W (.retX f xs)) := by
  rw [List.all_cons, Bool.and_eq_true] at hs
  refine psLen (ps_ret (pe_callS F hr hg hm hk hb (passAt tk) ha hd (star1 hs.1) (starAny hs.2))) fun D σ H hσ h => ?_
  obtain ⟨en, φ, ok, fl, en', he, q⟩ := h
  unfold ex at he
  refine callX_core (k := k) (kk := fun q e => (.ret q.1, e)) hP hE hl ok he q fun d os e1 v H' e2 ok' ev' r => ?_
  cases e2
  exact q σ H' φ ok' (.of ev') (fun _ _ => rfl) v r
/-- name = f(..) -/
theorem psAsgX {i : Nat} {y : Str} {py : Pos} (hN : X.N.Nodup) (hi : X.N[i]? = some y) (hx : Loc X.env.scope y) (hf : X.fn y = true ∨ X.env.scope.names.lookup y = some .local) (tk : Takes X W) (F : FnOk X.prog X.w X.K X.mg X.base (CX X.prog X.w) k a fd ps (spF X.K P f n .dat)) (hr : Room k X.A) (hg : Gl X nm) (hm : X.mg nm = some (.ref a)) (hk : PySem.W.keepIn X.K (.ref a) = true)
    (hb : Binds X.K fd ps []) (hP : ∀ sl r, P f sl = .ok r → sl.length = n ∧ r.2.length = ows sl) (hE : ∀ sl c p, P f sl = .exc c p → sl.length = n) (hl : lentOk (lentAt xs) = true) (hs : (e :: es).all noStar = true) (hd : (nm == ("__debug__" : Str)) = false) (ha : PA X (e :: es) (tA X.K P G xs)) :
    PS X (.Assign [.Name y py] (.Call (.Name nm p) (e :: es) [] q) pos) (tS X.K P G W (.asgX i f xs)) := by
  rw [List.all_cons, Bool.and_eq_true] at hs
  refine psLen (ps_set hN hi hx (pe_callS F hr hg hm hk hb (passAt tk) ha hd (star1 hs.1) (starAny hs.2)) (swaps_no rfl) hf) fun D σ H hσ h => ?_
  obtain ⟨en, φ, ok, fl, en', he, q⟩ := h
  unfold ex at he
  refine callX_core (k := k) (kk := fun q e => (.nx, e.set i (.fz q.1))) hP hE hl ok he q fun d os e1 v H' e2 ok' ev' r => ?_
  cases e2
  have hil := lt_of_slot ok' hσ (List.getElem?_eq_some_iff.mp hi).1
  exact q _ H' _ (env_set ok' r hil) ⟨ev', fun a ha => .inl (own_clr ha)⟩ fun j hj => set_out hj (by simp [asgd])
end
/-- what is told of a class of exceptions: made by an __init__ that calls the one right above ValueError -/
structure XcOk (P : Program) (w : World) (K : PySem.W.Frag) (mg : Str → Option Value) (base : Heap) (k c : Nat) (cn : Str) : Prop where
  db : (cn == ("__debug__" : Str)) = false
  ex : ∃ (C g fI B : Addr) (fd : FuncData) (ps : List Str) (nm nm2 : Str), Wx.exc c = some C ∧ mg cn = some (.ref C) ∧ Ex2.ChF K C C (.ref g) ∧ Ex2.ChF K C B (.builtin "ValueError.__init__") ∧ Ex2.NoF K C ∧ PySem.W.findIn K (.ref C) "__init__" = some (some (.ref fI)) ∧ PySem.W.typeIn K (.ref fI) = some (.type "function") ∧
    FnOk P w K mg base CX0 k fI fd ps (Ex2.spL K C g B nm nm2) ∧ Binds K fd ps []
/-- raise C(e) -/
theorem psRaise {k c : Nat} {cn : Str} {e : Expr} {x : Ex} {q : Pos} (hc : X.calm = true) (tk : Takes X W) (T : XcOk X.prog X.w X.K X.mg X.base k c cn) (hr : Room (k + 1) X.A) (hg : Gl X cn) (hx : isB x = false) (hs : noStar e = true) (ha : PA X [e] (tA X.K P G (.cons x .nil))) :
    PS X (.Raise (some (.Call (.Name cn p) [e] [] q)) none pos) (tS X.K P G W (.raise c x)) := by
  obtain ⟨C, g, fI, B, fd, ps, nm, nm2, hC, hm, T1, T2, hno, iC, tI, F1, hb⟩ := T.ex
  refine psLen (ps_raise hc tk (pmk_oex (CX := CX0) T1.oex iC tI F1 hr hb .nil (fun _ _ _ _ _ _ _ h => h.elim) hg hm ha T.db (star1 hs) rfl)) fun D σ H hσ h => ?_
  obtain ⟨en, φ, ok, fl, en', he, q⟩ := h
  unfold ex at he
  obtain ⟨⟨d, e1⟩, f1, he1⟩ := Res.bind_ok he
  cases he1
  have f2 : evs P G (.cons x .nil) en = .ok ([d], e1) := by
    unfold evs
    rw [f1]
    unfold evs
    rfl
  refine ⟨en, φ, ok, [d], e1, f2, fun vs H1 ok1 ev1 v1 => ?_⟩
  have hbx : noB (.cons x .nil) = true := by
    unfold noB noB
    rw [hx]; rfl
  have rr := vls_reps v1 hbx
  obtain ⟨v, rfl, rv⟩ : ∃ v, vs = [v] ∧ Rep X.K H1 v d := by
    cases rr with
    | cons a t => cases t; exact ⟨_, rfl, a⟩
  refine ⟨by simp, fun a hn => ⟨a, C, v, rfl, upd_same, T1, T2, hno, fun dx hdx hne => ⟨rfl, dx, _, ?_, upd_same, ?_, ?_⟩⟩⟩
  · rw [upd_ne hne.symm, upd_ne hne.symm, upd_same]
  · rw [upd_ne hne] at hdx
    exact hdx
  · have hd1 : H1 dx = none := by
      rw [upd_ne hne] at hdx
      exact hdx
    generalize hfs : [(("name" : Str), V.str nm2), ("name", .str nm), ("place", v)] = fs
    have sm : Same H1 (upd (del (upd (upd (upd (upd (upd H1 a (exo a C none)) dx (exd dx [("place", v)])) a (exo a C (some dx))) dx (exd dx [("name", .str nm), ("place", v)])) dx (exd dx fs)) a) dx (.xd fs)) := fun b o hb => by
      have nb : b ≠ a := fun z => by rw [z, hn] at hb; cases hb
      have nd : b ≠ dx := fun z => by rw [z, hd1] at hb; cases hb
      rw [upd_ne nd, del_ne nb, upd_ne nd, upd_ne nd, upd_ne nb, upd_ne nd, upd_ne nb]
      exact hb
    refine q σ _ _ (wip_env ok rfl (tabs_same ok1.tb sm)) (went_none (ev1.trans' (.of sm))) (fun _ _ => rfl) _ _ ⟨C, dx, fs, v, hC, rfl, rfl, upd_same, ?_, rv.mono (.of sm)⟩
    rw [← hfs]
    rfl
end
end Vi

/-! Vi, part X2: try .. except C as n: return .. -/
namespace Vi
open PySem PySem.Spec PyProof.Rows
open L2
variable [Wx]
section
variable {X : Cx} {P : Tb} {G : List D} {W : WX} {pos p : Pos}
/-- the place of what was caught -/
def tPl (K : PySem.W.Frag) (i : Nat) (e : Addr) (cls : Value) (d : Option Addr) : TE := fun σ H Q => ∃ C, cls = .ref C ∧ XfC K C ∧ PySem.W.findIn K (.ref C) "place" = some none ∧ tXf e cls d C "place" (tVar i) σ H Q
theorem pePl {e : Addr} {oe : Obj} {cls : Value} {d : Option Addr} {pn : List (Addr × Obj)} {i : Nat} {n : Str} {q : Pos} (hN : X.N[i]? = some n) (hv : Vis X.env.scope n) (h1 : (n == ("__debug__" : Str)) = false) (h2 : (n == ("__classdict__" : Str)) = false) (hz : L2.Zc cls d oe) (hf : ∃ vs, oe.data = .fields vs) :
    PE (X.suite e ((e, oe) :: pn)) (.Attribute (.Name n q) "place" pos) (tPl X.K i e cls d) := by
  refine ⟨fun pins s σ H Q I h => ?_⟩
  obtain ⟨C, rfl, T, hno, h⟩ := h
  exact (pe_xf T hno hz hf (pe_var (X := X.suite e ((e, oe) :: pn)) hN hv h1 h2)).run pins s σ H Q I h
def tHR (K : PySem.W.Frag) (i : Nat) (e : Addr) (cls : Value) (d : Option Addr) : HR → TE
  | .place => tPl K i e cls d
  | .tup1 => tTup (tCons (tPl K i e cls d) tNil)
  | .pair s => tTup (tCons (tC (.str s)) (tCons (tPl K i e cls d) tNil))
  | .cst s => tC (.str s)
/-- the expression that a clause returns -/
def plB (n : Str) : Expr → Bool
  | .Attribute (.Name m _) f _ => decide (m = n) && decide (f = "place")
  | _ => false
def csB (s : Str) : Expr → Bool
  | .Constant (.str s') _ _ => decide (s' = s)
  | _ => false
def t1B (n : Str) : Expr → Bool
  | .Tuple [a] _ _ => plB n a
  | _ => false
def t2B (s n : Str) : Expr → Bool
  | .Tuple [a, b] _ _ => csB s a && plB n b
  | _ => false
def hrB (n : Str) (hr : HR) (e : Expr) : Bool := match hr with
  | .place => plB n e
  | .tup1 => t1B n e
  | .pair s => t2B s n e
  | .cst s => csB s e
section
variable {e : Addr} {oe : Obj} {cls : Value} {d : Option Addr} {pn : List (Addr × Obj)} {i : Nat} {n s : Str} {x : Expr}
theorem plB_ok (hN : X.N[i]? = some n) (hv : Vis X.env.scope n) (h1 : (n == ("__debug__" : Str)) = false) (h2 : (n == ("__classdict__" : Str)) = false) (hz : L2.Zc cls d oe) (hf : ∃ vs, oe.data = .fields vs) (h : plB n x = true) : PE (X.suite e ((e, oe) :: pn)) x (tPl X.K i e cls d) := by
  unfold plB at h
  split at h
  · simp only [Bool.and_eq_true, decide_eq_true_eq] at h
    obtain ⟨rfl, rfl⟩ := h
    exact pePl hN hv h1 h2 hz hf
  · cases h
theorem csB_ok {X : Cx} (h : csB s x = true) : PE X x (tC (.str s)) := by
  unfold csB at h
  split at h
  · obtain rfl := of_decide_eq_true h
    exact pe_str
  · cases h
theorem plB_star (h : plB n x = true) : noStar x = true := by
  unfold plB at h
  split at h
  · rfl
  · cases h
theorem csB_star (h : csB s x = true) : noStar x = true := by
  unfold csB at h
  split at h
  · rfl
  · cases h
theorem peHR (hN : X.N[i]? = some n) (hv : Vis X.env.scope n) (h1 : (n == ("__debug__" : Str)) = false) (h2 : (n == ("__classdict__" : Str)) = false) (hz : L2.Zc cls d oe) (hf : ∃ vs, oe.data = .fields vs) (hr : HR) (h : hrB n hr x = true) : PE (X.suite e ((e, oe) :: pn)) x (tHR X.K i e cls d hr) := by
  cases hr with
  | place => exact plB_ok hN hv h1 h2 hz hf h
  | cst s => exact csB_ok h
  | tup1 =>
    have h : t1B n x = true := h
    unfold t1B at h
    split at h
    · exact pe_tup (pa_cons (plB_ok hN hv h1 h2 hz hf h) pa_nil (star1 (plB_star h)))
    · cases h
  | pair s =>
    have h : t2B s n x = true := h
    unfold t2B at h
    split at h
    · rw [Bool.and_eq_true] at h
      exact pe_tup (pa_cons (csB_ok h.1) (pa_cons (plB_ok hN hv h1 h2 hz hf h.2) pa_nil (star1 (plB_star h.2))) (star1 (csB_star h.1)))
    · cases h
end
/-- what the clause returns stands for what it should -/
theorem tHR_ok {K : PySem.W.Frag} {H : Hp} {σ : L2.St} {i : Nat} {e : Addr} {cls : Value} {d : Option Addr} {c : Nat} {q : D} {Q : VK} (hx : ExcAt K H cls d c q) (hC : ∀ C, Wx.exc c = some C → XfC K C ∧ PySem.W.findIn K (.ref C) "place" = some none) (hi : σ[i]? = some (some (.ref e))) :
    ∀ (hr : HR), (∀ v H', Same H H' → Rep K H' v (hrD hr q) → Q v H') → tHR K i e cls d hr σ H Q := by
  obtain ⟨C, dx, fs, v, e1, rfl, rfl, e2, e3, r⟩ := hx
  have pl : ∀ {R : VK}, R v H → tPl K i e (.ref C) (some dx) σ H R := fun hq =>
    ⟨C, rfl, (hC C e1).1, (hC C e1).2, .ref e, hi, rfl, rfl, dx, fs, v, rfl, e2, e3, hq⟩
  intro hr h
  cases hr with
  | place => exact pl (h v H (.refl _) r)
  | tup1 =>
    refine pl (R := fun x H1 => tNil σ H1 fun xs H2 => (x :: xs).length ≤ sizeLine ∧ ∀ p, H2 p = none → Q (.ref p) (upd H2 p (.tup (x :: xs)))) ⟨by rw [sizeLine_eq]; simp, fun p hp => h _ _ (same_upd hp) (rep_newT hp (.cons r .nil))⟩
  | pair s =>
    show tPl K i e (.ref C) (some dx) σ H _
    exact pl ⟨by rw [sizeLine_eq]; simp, fun p hp => h _ _ (same_upd hp) (rep_newT hp (.cons (.str s) (.cons r .nil)))⟩
  | cst s => exact h _ H (.refl _) (.str s)
end
/-- the classes of exceptions that a clause's class catches -/
def EmOk (K : PySem.W.Frag) (mg : Str → Option Value) (x : Str) (l : List Nat) : Prop :=
  (x == ("__debug__" : Str)) = false ∧ ∃ Cc, mg x = some (.ref Cc) ∧ ∀ c C, Wx.exc c = some C → PySem.W.exmOne K (.ref C) (.ref Cc) = some (l.contains c)
def XfOk (K : PySem.W.Frag) : Prop := ∀ c C, Wx.exc c = some C → XfC K C ∧ PySem.W.findIn K (.ref C) "place" = some none
def reB (n : Str) (hr : HR) : List Stmt → Bool
  | [.Return (some e) _] => hrB n hr e
  | _ => false
def tyB (sc : Scope) (em : List (Str × List Nat)) (l : List Nat) : Option Expr → Bool
  | some (.Name x _) => decide ((x, l) ∈ em) && glB sc x
  | _ => false
def ckH1 (sc : Scope) (em : List (Str × List Nat)) (n : Str) (l : List Nat) (hr : HR) : ExceptHandler → Bool
  | .ExceptHandler t m b _ => decide (m = some n) && tyB sc em l t && reB n hr b
def ckHs (sc : Scope) (em : List (Str × List Nat)) (n : Str) : List (List Nat × HR) → List ExceptHandler → Bool
  | [], [] => true
  | (l, hr) :: r, c :: cs => ckH1 sc em n l hr c && ckHs sc em n r cs
  | _, _ => false
section
variable {X : Cx} {P : Tb} {G : List D} {pos : Pos} {i : Nat} {n : Str} {em : List (Str × List Nat)}
theorem clauses_ok (hN : X.N[i]? = some n) (hv : Vis X.env.scope n) (h1 : (n == ("__debug__" : Str)) = false) (h2 : (n == ("__classdict__" : Str)) = false) (hem : ∀ x l, (x, l) ∈ em → EmOk X.K X.mg x l) (hx : XfOk X.K) :
    ∀ (hs : List (List Nat × HR)) (cs : List ExceptHandler), ckHs X.env.scope em n hs cs = true → ∃ L, Ex2.Clauses X n cs L ∧ ∀ (W : WX) (D0 : Ends) (c : Nat) (q : D) (cls : Value) (d : Option Addr) (σ : L2.St) (H : Hp), ExcAt X.K H cls d c q →
      (match findH c hs with
        | some hr => ∀ v H', Same H H' → Rep X.K H' v (hrD hr q) → D0.rt v H'
        | none => W cls d σ H) → Ex2.wAll X.K i W D0 L cls d σ H
  | [], [], _ => ⟨[], .nil, fun W D0 c q cls d σ H x h => h⟩
  | [], _ :: _, h => by unfold ckHs at h; cases h
  | _ :: _, [], h => by unfold ckHs at h; cases h
  | (l, hr) :: r, .ExceptHandler t m b q :: cs, h => by
    unfold ckHs at h
    rw [Bool.and_eq_true] at h
    obtain ⟨ha, hb⟩ := h
    unfold ckH1 at ha
    simp only [Bool.and_eq_true, decide_eq_true_eq] at ha
    obtain ⟨⟨rfl, a1⟩, a3⟩ := ha
    unfold tyB at a1
    split at a1
    rotate_left
    · cases a1
    rename_i x px
    unfold reB at a3
    split at a3
    · rename_i e pe
      simp only [Bool.and_eq_true, decide_eq_true_eq] at a1
      obtain ⟨a1, a2⟩ := a1
      obtain ⟨b1, Cc, b2, b3⟩ := hem x l a1
      obtain ⟨L, hL, k⟩ := clauses_ok hN hv h1 h2 hem hx r cs hb
      refine ⟨(.ref Cc, fun e cls d => tRet (tHR X.K i e cls d hr)) :: L, .cons ⟨gl_of a2, b1, .inl b2⟩ (fun e oe cls d pn hz hf => pss_one (ps_ret (peHR hN hv h1 h2 hz hf hr a3))) hL, fun W D0 c q cls d σ H x h => ?_⟩
      have x0 := x
      obtain ⟨C, dx, fs, v, e1, rfl, rfl, e2, e3, rv⟩ := x
      refine ⟨l.contains c, b3 c C e1, fun hb e he hi => ?_, fun hb => k W D0 c q _ _ σ H x0 ?_⟩
      · have hf : findH c ((l, hr) :: r) = some hr := by
          show (if l.contains c = true then some hr else findH c r) = _
          rw [if_pos hb]
        rw [hf] at h
        exact tHR_ok x0 (hx c) (by rw [List.getElem?_set_self hi]) hr h
      · have hf : findH c ((l, hr) :: r) = findH c r := by
          show (if l.contains c = true then some hr else findH c r) = _
          rw [if_neg (by rw [hb]; decide)]
        rw [hf] at h
        exact h
    · cases a3
theorem psTry {Wo : WX} {b : Blk} {hs : List (List Nat × HR)} {body : List Stmt} {c0 : ExceptHandler} {cs : List ExceptHandler} (s1 : X.stack = X.env :: X.outer) (s2 : X.env.frame = some X.env.locals) (nd : X.N.Nodup) (hN : X.N[i]? = some n) (hn : X.env.kindOf n = some .local) (h1 : (n == ("__debug__" : Str)) = false) (h2 : (n == ("__classdict__" : Str)) = false) (tk : Takes X Wo)
    (hem : ∀ x l, (x, l) ∈ em → EmOk X.K X.mg x l) (hx : XfOk X.K) (hc : ckHs X.env.scope em n hs (c0 :: cs) = true)
    (hb : ∀ (W : WX) (pn : List (Addr × Obj)) (xe : Value → Shared → Prop), Takes (X.tr pn xe) W → PassesOwn (model X.prog X.w) X.A X.env xe → PSs (X.tr pn xe) body (tSs X.K P G W b)) :
    PS X (.Try body (c0 :: cs) [] [] pos) (tS X.K P G Wo (.tryx b i hs)) := by
  obtain ⟨L, hL, k⟩ := clauses_ok hN (.inl hn) h1 h2 hem hx hs (c0 :: cs) hc
  refine psImp (Ex2.ps_try_all s1 s2 nd hN hn tk hb hL) fun D0 σ H h => ?_
  obtain ⟨en, φ, ok, fl, en', he, q⟩ := h
  unfold ex at he
  obtain ⟨⟨fl0, e0⟩, f1, he1⟩ := Res.bind_ok he
  refine ⟨en, φ, ok, fl0, e0, f1, fun σ' H' φ' ok' w' k' => ?_⟩
  have k2 : ∀ j, j ∉ asgd (.tryx b i hs) → σ'[j]? = σ[j]? := fun j hj => k' j fun z => hj (by unfold asgd; exact List.mem_cons_of_mem _ z)
  cases fl0 with
  | nx => cases he1; exact q σ' H' φ' ok' w' k2
  | brk => cases he1; exact q σ' H' φ' ok' w' k2
  | cnt => cases he1; exact q σ' H' φ' ok' w' k2
  | ret d => cases he1; exact q σ' H' φ' ok' w' k2
  | retO j => cases he1; exact q σ' H' φ' ok' w' k2
  | thr c p =>
    intro cls d x
    refine k Wo D0 c p cls d σ' H' x ?_
    dsimp only at he1
    cases hf : findH c hs with
    | some hr =>
      rw [hf] at he1
      cases he1
      exact fun v H2 sm r => q σ H2 _ (wip_env ok rfl (tabs_same ok'.tb sm)) (went_none (w'.1.trans' (.of sm))) (fun _ _ => rfl) v r
    | none =>
      rw [hf] at he1
      cases he1
      exact q σ' H' φ' ok' w' k2 cls d x
end
end Vi

/-! Vi, part X3: a class of exceptions, by what the top has written. -/
namespace Vi
open PySem PySem.Spec PyProof.Rows
open L2

theorem xc_at {W : Wx} {P : Program} {w : World} {K : PySem.W.Frag} {h : Heap} {mg : Str → Option Value} {base : Heap} {c : Nat} {cn qL qB nm nm2 : Str} {C B f g cdf cdg ccf ccg : Addr} {stL stB : Stmt}
    {q0 q1 q2 q3 q4 q5 t4 t5 t6 t7 r0 r1 r2 r3 r4 r5 s0 s1 s2 s3 s4 s5 s6 s7 : Pos} {j j' : Nat}
    {ocL dVL kVL docL pmL ctL ocB dVB kVB docB pmB ctB : Value} {odL anL odB anB : Option Addr} {slL slB : Array (Option Value)}
    {c1 c1' c3 c3' : Value} {c2 c2' c4 c4' : Option Addr} {v1 v1' : Array Value} {w1 w1' w2 w2' : Array (Option Value)} {fl fl' : Str} {tf tf' : Tok} {cdL cdB : ClassData} (X : K.In h) (N : h.Ns mainGlobals mg)
    (hc : Wx.exc c = some C) (hdb : (cn == ("__debug__" : Str)) = false)
    (hC : PySem.W.nsIn K mainGlobals cn = some (some (.ref C))) (hs : PySem.W.nsIn K mainGlobals "super" = some none) {nmC qC NC bsC bmC snC subC abC colC ddC k0C k1C k2C k3C k5C : _} (o1 : K.lookup C = some (excClassObj nmC qC C NC bsC bmC true snC subC abC colC ddC k0C k1C k2C k3C k5C "ValueError.__new__")) (o2 : PySem.HandSPX.refsVE bmC = true) (o3 : PySem.W.findIn K (.ref C) "__setattr__" = some (some (.builtin "object.__setattr__"))) (o4 : PySem.W.subIn K (.ref C) (.type "BaseException") = some true) (o5 : PySem.W.typeIn K (.ref C) = some (.type "type")) (o6 : PySem.W.keepIn K (.ref C) = true)
    (m1 : PySem.W.mroIn K C (.ref C) = some true) (m2 : PySem.W.mroIn K C (.ref B) = some true) (u1 : PySem.W.ks_superIn K C C "__init__" = some (some (.ref g))) (u2 : PySem.W.ks_superIn K C B "__init__" = some (some (.builtin "ValueError.__init__")))
    (ve : PySem.W.subIn K (.ref C) (.type "ValueError") = some true) (n1 : PySem.W.findIn K (.ref C) "place" = some none) (n2 : PySem.W.findIn K (.ref C) "name" = some none)
    (iC : PySem.W.findIn K (.ref C) "__init__" = some (some (.ref f))) (tI : PySem.W.typeIn K (.ref f) = some (.type "function")) (tg : PySem.W.typeIn K (.ref g) = some (.type "function")) (fg : PySem.W.fnIn K g = true)
    (lL : K.lookup f = some ⟨ocL, odL, .func (PySem.W.ksFn "__init__" qL (defArgs stL) (defBody stL) (defScope stL) dVL kVL docL pmL anL (.ref cdf) ctL ccf), slL⟩) (kL : PySem.W.codeIn K (.ref cdf) qL = true)
    (coL : K.lookup cdf = some ⟨c1, c2, .fields v1, w1⟩) (fiL : v1[2]? = some (.str fl tf)) (fsL : ((P.main.file : Str) == fl) = true) (ceL : K.lookup ccf = some ⟨c3, c4, .cell (some (.ref C)), w2⟩) (clL : PySem.W.clsIn K C = some cdL)
    (lB : K.lookup g = some ⟨ocB, odB, .func (PySem.W.ksFn "__init__" qB (defArgs stB) (defBody stB) (defScope stB) dVB kVB docB pmB anB (.ref cdg) ctB ccg), slB⟩) (kB : PySem.W.codeIn K (.ref cdg) qB = true)
    (coB : K.lookup cdg = some ⟨c1', c2', .fields v1', w1'⟩) (fiB : v1'[2]? = some (.str fl' tf')) (fsB : ((P.main.file : Str) == fl') = true) (ceB : K.lookup ccg = some ⟨c3', c4', .cell (some (.ref B)), w2'⟩) (clB : PySem.W.clsIn K B = some cdB)
    (top : (P.main.scope.names.lookup ("super" : Str)).isSome = false) (opq : PySem.W.nsIn K cStatics "thirdparty.any" = some none)
    (SL : Ex2.inSB "self" "place" (defScope stL) = true) (SB : Ex2.inSB "self" "place" (defScope stB) = true)
    (pL : ∃ ar, ((defArgs stL).posonlyargs ++ (defArgs stL).args).head? = some ar ∧ ar.arg = "self") (pB : ∃ ar, ((defArgs stB).posonlyargs ++ (defArgs stB).args).head? = some ar ∧ ar.arg = "self")
    (bL : defBody stL = [.Expr (.Call (.Attribute (.Call (.Name "super" q0) [] [] q1) "__init__" q2) [.Name "place" q3] [] q4) q5, .Assign [.Attribute (.Name "self" t4) "name" t5] (.Constant (.str nm2) j t6) t7])
    (bB : defBody stB = [.Expr (.Call (.Attribute (.Call (.Name "super" r0) [] [] r1) "__init__" r2) [.Name "place" r3] [] r4) r5, .Assign [.Attribute (.Name "self" s0) "place" s1] (.Name "place" s2) s3, .Assign [.Attribute (.Name "self" s4) "name" s5] (.Constant (.str nm) j' s6) s7])
    (hqL : (q2.endLine == q4.line) = true) (hqB : (r2.endLine == r4.line) = true)
    (biL : ∀ us : List Value, us.length = 2 → bindArgs (PySem.W.ksFn "__init__" qL (defArgs stL) (defBody stL) (defScope stL) dVL kVL docL pmL anL (.ref cdf) ctL ccf) ⟨us, []⟩ = pure ((["self", "place"] : List Str).zip us))
    (biB : ∀ us : List Value, us.length = 2 → bindArgs (PySem.W.ksFn "__init__" qB (defArgs stB) (defBody stB) (defScope stB) dVB kVB docB pmB anB (.ref cdg) ctB ccg) ⟨us, []⟩ = pure ((["self", "place"] : List Str).zip us)) :
    XcOk P w K mg base 2 c cn := by
  have hm : mg "super" = none := PySem.W.mg_none_of X N hs
  have o : OexC K C := ⟨⟨_, _, _, _, _, _, _, _, _, _, _, _, _, _, _, o1, o2⟩, o3, o4, o5, o6⟩
  have FL : Ex2.SupF P K f C cdf ccf "__init__" qL "self" (defArgs stL) (defBody stL) (defScope stL) dVL kVL docL pmL ctL anL := ⟨⟨_, _, _, lL⟩, kL, ⟨_, _, _, _, _, _, coL, fiL, fsL⟩, ⟨_, _, _, ceL⟩, ⟨_, clL⟩, pL, top, opq⟩
  have FB : Ex2.SupF P K g B cdg ccg "__init__" qB "self" (defArgs stB) (defBody stB) (defScope stB) dVB kVB docB pmB ctB anB := ⟨⟨_, _, _, lB⟩, kB, ⟨_, _, _, _, _, _, coB, fiB, fsB⟩, ⟨_, _, _, ceB⟩, ⟨_, clB⟩, pB, top, opq⟩
  have dn : (("self" : Str) == ("__debug__" : Str)) = false ∧ (("self" : Str) == ("__classdict__" : Str)) = false := by decide
  have dp : (("place" : Str) == ("__debug__" : Str)) = false ∧ (("place" : Str) == ("__classdict__" : Str)) = false := by decide
  have hbB : L2.Binds K (PySem.W.ksFn "__init__" qB (defArgs stB) (defBody stB) (defScope stB) dVB kVB docB pmB anB (.ref cdg) ctB ccg) ["self", "place"] [] := .all fun us hl => biB us hl
  have hbL : L2.Binds K (PySem.W.ksFn "__init__" qL (defArgs stL) (defBody stL) (defScope stL) dVL kVL docL pmL anL (.ref cdf) ctL ccf) ["self", "place"] [] := .all fun us hl => biL us hl
  have G1 := Ex2.base_ok (P := P) (w := w) (mg := mg) (base := base) (k := 0) hqB FB (Ex2.inS_by SB) hm dn dp bB
  have G2 := Ex2.leaf_ok (P := P) (w := w) (mg := mg) (base := base) (k := 1) hqL FL (Ex2.inS_by SL) hm dn dp tg fg G1 hbB rfl bL
  exact ⟨hdb, C, g, f, B, _, _, nm, nm2, hc, PySem.W.mg_of X N hC, ⟨o, m1, u1, ve⟩, ⟨o, m2, u2, ve⟩, ⟨n1, n2⟩, iC, tI, G2, hbL⟩
theorem em_at {W : Wx} {K : PySem.W.Frag} {h : Heap} {mg : Str → Option Value} {x : Str} {l : List Nat} {Cc : Addr} (X : K.In h) (N : h.Ns mainGlobals mg) (hd : (x == ("__debug__" : Str)) = false) (a : PySem.W.nsIn K mainGlobals x = some (some (.ref Cc)))
    (h : ∀ c C, Wx.exc c = some C → PySem.W.exmOne K (.ref C) (.ref Cc) = some (l.contains c)) : EmOk K mg x l := ⟨hd, Cc, PySem.W.mg_of X N a, h⟩
end Vi

/-! Vi, part L1: a def that asks, by its text. -/
namespace Vi
open PySem PySem.Spec PyProof.Rows
open L2
variable [Wx]
/-- the call in the body -/
def callA (a : Str) : Expr → Bool
  | .Call (.Name m _) [] [] _ => decide (m = a)
  | _ => false
/-- try: return (s, a()) / a(); return (s, None) -/
def bodyP (a : Str) (s : Str) : List Stmt → Bool
  | [.Return (some (.Tuple [x, c] _ _)) _] => csB s x && callA a c
  | _ => false
def bodyU (a : Str) (s : Str) : List Stmt → Bool
  | [.Expr c _, .Return (some (.Tuple [x, .Constant .none _ _] _ _)) _] => csB s x && callA a c
  | _ => false
def bodyA (a : Str) (ak : AK) (b : List Stmt) : Bool := match ak with
  | .pair s => bodyP a s b
  | .unit s => bodyU a s b
def tryA (sc : Scope) (em : List (Str × List Nat)) (a n : Str) (ak : AK) (hs : List (List Nat × HR)) : List Stmt → Bool
  | [.Try b (c :: cs) [] [] _] => bodyA a ak b && ckHs sc em n hs (c :: cs)
  | _ => false
theorem ask_gives {X : Cx} {Ng : List Str} {x a n q : Str} {sg : Scope} {g : Addr} {cdg : Value} {bg : List Stmt} {i : Nat} {em : List (Str × List Nat)} {ak : AK} {hs : List (List Nat × HR)} (nd : Ng.Nodup) (h0 : ∀ f : Addr, (L2.start Ng [V.ref f])[0]? = some (some (V.ref f))) (hi : Ng[i]? = some n)
    (hn : sg.names.lookup n = some .local) (h1 : (n == ("__debug__" : Str)) = false) (h2 : (n == ("__classdict__" : Str)) = false) (hem : ∀ x l, (x, l) ∈ em → EmOk X.K X.mg x l) (hx : XfOk X.K) (hb : tryA sg em a n ak hs bg = true) (hlen : ∀ f : Addr, i < (L2.start Ng [V.ref f]).length) :
    LamX.GivesTo X Ng x sg g cdg bg a q (TTw X.K ak hs) := by
  intro f c' s H Q tl act hc h
  obtain ⟨Ech, htl, hex⟩ := h
  unfold tryA at hb
  split at hb
  rotate_left
  · cases hb
  rename_i b c cs tpos
  rw [Bool.and_eq_true] at hb
  obtain ⟨hb1, hb2⟩ := hb
  obtain ⟨L, hL, k⟩ := clauses_ok (X := (cxOf C8.CX0 X.prog X.w X.K X.mg X.base Ng x sg g cdg X.A X.stack s H C8.E0).nox) hi (.inl hn) h1 h2 hem hx hs (c :: cs) hb2
  refine ⟨_, pss_one (Ex2.ps_try_all (X := (cxOf C8.CX0 X.prog X.w X.K X.mg X.base Ng x sg g cdg X.A X.stack s H C8.E0).nox) (i := i) (Wo := fun _ _ _ _ => False)
      (tb := fun W D σ H => ∃ Ech : XK, (∀ cls d σ' H', Ech cls d H' → W cls d σ' H') ∧ σ[0]? = some (some (.ref f)) ∧ H c' = some (LamX.CodeO c' q) ∧ tl Ech H (akQ ak D.rt))
      rfl rfl nd hi hn LamX.takes0 (fun W pn xe tk _ => ?_) hL), ?_⟩
  · refine ⟨fun pins s' σ H' D I h' => ?_⟩
    obtain ⟨Ech, hW, h1, h2, h3⟩ := h'
    cases ak with
    | pair t =>
      have hb1 : bodyP a t b = true := hb1
      unfold bodyP at hb1
      split at hb1
      · rename_i x1 c1 _ _ _
        rw [Bool.and_eq_true] at hb1
        obtain ⟨e1, e2⟩ := hb1
        unfold callA at e2
        split at e2
        · obtain rfl := of_decide_eq_true e2
          exact (pss_one (ps_ret (pe_tup (pa_cons (csB_ok e1) (pa_cons (act W pn xe Ech _ _ tk hW) pa_nil (star1 rfl)) (star1 (csB_star e1)))))).run pins s' σ H' D I ⟨h1, h2, h3⟩
        · cases e2
      · cases hb1
    | unit t =>
      have hb1 : bodyU a t b = true := hb1
      unfold bodyU at hb1
      split at hb1
      · rename_i c1 _ x1 _ _ _ _ _
        rw [Bool.and_eq_true] at hb1
        obtain ⟨e1, e2⟩ := hb1
        unfold callA at e2
        split at e2
        · obtain rfl := of_decide_eq_true e2
          exact (pss_cons (ps_expr (act W pn xe Ech _ _ tk hW)) (pss_one (ps_ret (pe_tup (pa_cons (csB_ok e1) (pa_cons pe_non pa_nil (star1 rfl)) (star1 (csB_star e1))))))).run pins s' σ H' D I ⟨h1, h2, h3⟩
        · cases e2
      · cases hb1
  · refine ⟨Ech, fun cls d σ' H' he => ?_, h0 f, hc, htl⟩
    obtain ⟨tb, cN, p, hr, xc, hf, hq⟩ := hex cls d H' he
    refine k (fun _ _ _ _ => False) _ cN p cls d σ' H' xc ?_
    rw [hf]
    exact fun v H2 sm r => hq v H2 sm r
end Vi

/-! Vi, part 20: the same of statements. -/
namespace Vi
open PySem PySem.Spec PyProof.Rows
open L2
variable [Wx]

def swB (sc : Scope) (y : Str) (py pos : Pos) (scope : Scope) : Bool :=
  (match sc.names.lookup y with
  | some .local => true
  | _ => false) && py.line == pos.line && !(scope.names.any fun (n, k) => n == y && (k == .local || k == .cell))
def noTup : Expr → Bool
  | .Tuple _ _ _ => false
  | _ => true
def ckM (z : Zc) (sc : Scope) : List Bool → Exs → List Expr → Bool
  | [], .nil, [] => true
  | o :: os, .cons x xs, e :: es => noStar e && ckE z sc x e && (!o || isO z x) && ckM z sc os xs es
  | _, _, _ => false
def lcl (sc : Scope) (x : Str) : Bool := match sc.names.lookup x with
  | some .local => true
  | _ => false
def tgN (z : Zc) (sc : Scope) (i : Nat) (x : Str) : Bool := decide (z.N[i]? = some x) && locB sc x
/-- names that change places -/
def ckW (z : Zc) (sc : Scope) (l : List (Nat × Bool)) (ts es : List Expr) (r : List Str) : Bool := match l, ts, es with
  | [(i, _), (j, _)], [.Name x _, .Name y _], [_, _] => decide (r = [x, y]) && decide (i ≠ j) && lcl sc x && lcl sc y
  | [(i, _), (j, _), (k, _)], [.Name x _, .Name y _, .Name w _], [_, _, _] => decide (r = [x, y, w]) && decide (i ≠ j) && decide (i ≠ k) && decide (j ≠ k) && lcl sc x && lcl sc y && lcl sc w
  | _, _, _ => false
def isFzS : Sx → Bool
  | .fz _ => true
  | _ => false
def isIni : Sx → Blk → Bool
  | .ini _ _, .nil => true
  | _, _ => false
def isBadS : Sx → Bool
  | .bad => true
  | _ => false
/-- targets: names, items of a name's list, items of its items -/
def ckTs (z : Zc) (sc : Scope) : List Nat → Exs → Exs → List Expr → Bool
  | [], .nil, .nil, [] => true
  | i :: is, .cons ix ixs, .cons jx jxs, t :: ts => (match t with
    | .Name x _ => isNop ix && decide (z.N[i]? = some x) && locB sc x
    | .Subscript (.Name y _) e _ => !isNop ix && isNop jx && atN z sc i y && ckE z sc ix e && !isB ix && noSlice e
    | .Subscript (.Subscript (.Name y _) e _) e2 _ => !isNop ix && !isNop jx && atN z sc i y && ckE z sc ix e && !isB ix && noSlice e && ckE z sc jx e2 && !isB jx && noSlice e2
    | _ => false) && ckTs z sc is ixs jxs ts
  | _, _, _, _ => false
def isLcm (z : Zc) : Ex → Bool
  | .lcm _ _ _ _ _ elt => isO z elt
  | _ => false
def isComp : Expr → Bool
  | .ListComp _ _ _ _ => true
  | _ => false
/-- the names of fields and of what they are set to -/
def stFs : List Stmt → List Str
  | .Assign [.Attribute _ g _] _ _ :: l => g :: stFs l
  | _ => []
def stXs : List Stmt → List Str
  | .Assign [.Attribute _ _ _] (.Name y _) _ :: l => y :: stXs l
  | _ => []
def namesAt (z : Zc) (sc : Scope) : List Nat → List Str → Bool
  | [], [] => true
  | i :: is, x :: xs => atN z sc i x && namesAt z sc is xs
  | _, _ => false
def ckIni (z : Zc) (sc : Scope) (c : Nat) (is : List Nat) (l : List Stmt) : Bool := match z.cs[c]?, z.N with
  | some p, s :: _ => decide (p.2.2 = stFs l) && decide (p.2.2 ≠ []) && decide (p.2.2.length < 1000) && visB sc s && stores (stFs l) (stXs l) l && selfs s l && namesAt z sc is (stXs l) && decide (is.length = p.2.2.length)
  | _, _ => false
/-- a def that tells data -/
def fnB (z : Zc) (f : Nat) (x : Str) : Bool := match z.fs[f]? with
  | some p => decide (p.1 = none) && decide (p.2.1 = x) && decide (p.2.2.2 = .dat)
  | none => false
mutual
def ckS (z : Zc) (sc : Scope) : Sx → Stmt → Bool
  | .asg i x, s => match s with
    | .Assign [.Name y _] e _ => tgN z sc i y && ckE z sc x e && !isB x && notComp e
    | _ => false
  | .asgO i x, s => match s with
    | .Assign [.Name y py] e _ => tgN z sc i y && ckE z sc x e && isO z x && (notComp e || match e with
      | .ListComp _ _ scope pos => true
      | _ => false)
    | _ => false
  | .asgT is x, s => match s with
    | .Assign [.Tuple ts _ _] e _ => chkNs z.N sc is ts && ckE z sc x e && !isB x && notComp e && noTup e
    | _ => false
  | .par l xs, s => match s with
    | .Assign [.Tuple ts _ _] (.Tuple es _ _) _ => chkNs z.N sc (l.map (·.1)) ts && ckM z sc (l.map (·.2)) xs es && okFl (l.map (·.2)) xs && decide (exsLen xs ≤ 1000) && (match swR sc ts es with
      | some none => true
      | some (some r) => ckW z sc l ts es r
      | none => false)
    | _ => false
  | .parS is ixs jxs xs, s => match s with
    | .Assign [.Tuple ts _ _] (.Tuple es _ _) _ => ckTs z sc is ixs jxs ts && noB ixs && noB jxs && okII ixs jxs && ckA z sc xs es && noB xs && decide (exsLen xs ≤ 1000) && (match swR sc ts es with
      | some none => true
      | _ => false)
    | _ => false
  | .asgM i x, s => match s with
    | .Assign [.Name y py] e _ => tgN z sc i y && ckE z sc x e && isLcm z x && isComp e
    | _ => false
  | .setII i ix jx x, s => match s with
    | .Assign [.Subscript (.Subscript (.Name y _) e1 _) e3 _] e2 _ => atN z sc i y && ckE z sc ix e1 && ckE z sc jx e3 && ckE z sc x e2 && !isB x && !isB ix && !isB jx && noSlice e1 && noSlice e3 && quiet ix && quiet jx
    | _ => false
  | .augII i ix jx op x, s => match s with
    | .AugAssign (.Subscript (.Subscript (.Name y _) e1 _) e3 _) o e _ => decide (o = astB op) && decide (op ≠ .pow) && atN z sc i y && ckE z sc ix e1 && ckE z sc jx e3 && ckE z sc x e && !isB x && !isB ix && !isB jx && noSlice e1 && noSlice e3 && quiet ix && quiet jx
    | _ => false
  | .ini _ _, _ => false
  | .setI i ix x, s => match s with
    | .Assign [.Subscript (.Name y _) e1 _] e2 _ => atN z sc i y && ckE z sc ix e1 && ckE z sc x e2 && !isB x && !isB ix && noSlice e1
    | _ => false
  | .dsetI i ix x, s => match s with
    | .Assign [.Subscript (.Name y _) e1 _] e2 _ => atN z sc i y && ckE z sc ix e1 && ckE z sc x e2 && !isB x && !isB ix && noSlice e1
    | _ => false
  | .ext i x, s => match s with
    | .Expr (.Call (.Attribute (.Name y _) m ap) [e] [] cp) _ => decide (m = ("extend" : Str)) && atN z sc i y && ckE z sc x e && isO z x && noStar e && (ap.endLine == cp.line)
    | _ => false
  | .rem i x, s => match s with
    | .Expr (.Call (.Attribute (.Name y _) m ap) [e] [] cp) _ => decide (m = ("remove" : Str)) && atN z sc i y && ckE z sc x e && !isB x && noStar e && (ap.endLine == cp.line)
    | _ => false
  | .insX i ix x, s => match s with
    | .Expr (.Call (.Attribute (.Name y _) m ap) [e1, e] [] cp) _ => decide (m = ("insert" : Str)) && atN z sc i y && ckE z sc ix e1 && !isB ix && ckE z sc x e && !isB x && noStar e1 && noStar e && (ap.endLine == cp.line)
    | _ => false
  | .app i x, s => match s with
    | .Expr (.Call (.Attribute (.Name y _) m ap) [e] [] cp) _ => decide (m = ("append" : Str)) && atN z sc i y && ckE z sc x e && !isB x && noStar e && (ap.endLine == cp.line)
    | _ => false
  | .aug i op x, s => match s with
    | .AugAssign (.Name y _) o e _ => decide (o = astB op) && decide (op ≠ .pow) && tgN z sc i y && ckE z sc x e && !isB x
    | _ => false
  | .augI i ix op x, s => match s with
    | .AugAssign (.Subscript (.Name y _) e1 _) o e _ => decide (o = astB op) && decide (op ≠ .pow) && atN z sc i y && ckE z sc ix e1 && ckE z sc x e && !isB x && !isB ix && noSlice e1
    | _ => false
  | .ret x, s => match s with
    | .Return (some e) _ => ckE z sc x e && !isB x
    | _ => false
  | .retN, s => match s with
    | .Return none _ => true
    | _ => false
  | .retO i, s => match s with
    | .Return (some (.Name y _)) _ => atN z sc i y
    | _ => false
  | .retL t x, s => match s with
    | .Return (some e) _ => ckE z sc x e && isO z x && decide (t < z.N.length)
    | _ => false
  | .ife c a b, s => match s with
    | .If e l r _ => ckE z sc c e && !isB c && ckB z sc a l && ckB z sc b r
    | _ => false
  | .whl c a, s => match s with
    | .While e l [] _ => ckE z sc c e && !isB c && ckB z sc a l
    | _ => false
  | .forr pt sk src a, s => match s with
    | .For tg it l [] _ => chkP z.N sc pt tg && notSet it && (match srcArgs z sc sk it tg with
      | some es => ckA z sc src es && noB src
      | none => false) && ckB z sc a l
    | _ => false
  | .brk, s => match s with
    | .Break _ => true
    | _ => false
  | .cnt, s => match s with
    | .Continue _ => true
    | _ => false
  | .pass, s => match s with
    | .Pass _ => true
    | _ => false
  | .expr x, s => match s with
    | .Expr e _ => ckE z sc x e && notComp e
    | _ => false
  | .raise c x, s => match s with
    | .Raise (some (.Call (.Name cn _) [e] [] _)) none _ => decide (z.xs[c]? = some cn) && glB sc cn && !isB x && noStar e && ckA z sc (.cons x .nil) [e]
    | _ => false
  | .exprX f xs, s => match s with
    | .Expr (.Call (.Name x _) (e :: l) [] _) _ => fnB z f x && glB sc x && lentOk (lentAt xs) && ckA z sc xs (e :: l)
    | _ => false
  | .asgX i f xs, s => match s with
    | .Assign [.Name y _] (.Call (.Name x _) (e :: l) [] _) _ => tgN z sc i y && fnB z f x && glB sc x && lentOk (lentAt xs) && ckA z sc xs (e :: l)
    | _ => false
  | .retX f xs, s => match s with
    | .Return (some (.Call (.Name x _) (e :: l) [] _)) _ => fnB z f x && glB sc x && lentOk (lentAt xs) && ckA z sc xs (e :: l)
    | _ => false
  | .tryx b i hs, s => match s with
    | .Try body (.ExceptHandler t (some n) hb hp :: cs) [] [] _ => decide (z.N[i]? = some n) && decide (sc.names.lookup n = some .local) && decide (z.em ≠ []) && ckHs sc z.em n hs (.ExceptHandler t (some n) hb hp :: cs) && ckB z sc b body
    | _ => false
  | .fz _, _ => false
  | .bad, _ => true
def ckB (z : Zc) (sc : Scope) : Blk → List Stmt → Bool
  | .nil, l => match l with
    | [] => true
    | _ => false
  | .cons s b, l => if isIni s b = true then (match s with
    | .ini c is => ckIni z sc c is l
    | _ => false) else if isFzS s = true then ckB z sc b l else if isBadS s = true then true else match l with
    | st :: l => ckS z sc s st && ckB z sc b l
    | [] => false
end
structure WdS (X : Cx) (z : Zc) (P : Tb) (G : List D) (k : Nat) (Wt : WX) : Prop extends Wd X z P G k where
  tk : Takes X Wt
  xs : ∀ (c : Nat) (cn : Str), z.xs[c]? = some cn → XcOk X.prog X.w X.K X.mg X.base k c cn
  fn : ∀ x, X.fn x = true
  pass : PassesOwn (model X.prog X.w) X.A X.env X.xe
  kind : X.env.scope.kind = .function
  stk : X.stack = X.env :: X.outer
  frm : X.env.frame = some X.env.locals
  em : ∀ x l, (x, l) ∈ z.em → EmOk X.K X.mg x l
  xf : z.em = [] ∨ XfOk X.K
theorem sw_lc {elt : Expr} {gens : List Comprehension} {scope : Scope} {pos py : Pos} {y : Str} {l : Nat} {env : Env} (hk : env.scope.kind = .function) :
    swapsWith (.ListComp elt gens scope pos) (some (.Name y py)) l env = pure (swB env.scope y py pos scope) := by
  have e : env.blockKind = .function := by unfold Env.blockKind; rw [hk]; rfl
  have e2 : (env.kindOf y == some .local) = (match env.scope.names.lookup y with
    | some .local => true
    | _ => false) := by
    show (env.scope.names.lookup y == some .local) = _
    cases env.scope.names.lookup y with
    | none => rfl
    | some k => cases k <;> rfl
  unfold swapsWith swB
  dsimp only
  rw [e, ← e2]
  rfl
theorem swapped_no {es : List Expr} {k : Nat} {pt : Pos} {e : Expr} {env : Env} (h : noTup e = true) : swappedStores [.Tuple es k pt] e env = pure none := by
  cases e <;> first | rfl | (simp [noTup] at h)
theorem tgN_ok {X : Cx} {z : Zc} {P : Tb} {G : List D} {k : Nat} {Wt : WX} (W : WdS X z P G k Wt) {i : Nat} {x : Str} (h : tgN z X.env.scope i x = true) : X.N[i]? = some x ∧ Loc X.env.scope x ∧ (X.fn x = true ∨ X.env.scope.names.lookup x = some .local) := by
  unfold tgN at h
  rw [Bool.and_eq_true, decide_eq_true_eq] at h
  exact ⟨by rw [W.eqN]; exact h.1, loc_of h.2, .inl (W.fn x)⟩
theorem lcl_ok {sc : Scope} {x : Str} (h : lcl sc x = true) : sc.names.lookup x = some .local := by
  unfold lcl at h
  split at h
  · assumption
  · cases h
theorem binds_fn {X : Cx} (h : ∀ x, X.fn x = true) : Binds0 X X.env.scope := fun x hx => ⟨loc_of hx, .inl (h x)⟩
variable {z : Zc} {P : Tb} {G : List D} {k : Nat} {Wt : WX}
theorem okM {X : Cx} (W : Wd X z P G k) : ∀ (os : List Bool) (xs : Exs) (es : List Expr), ckM z X.env.scope os xs es = true → PA X es (tMs X.K P G os xs) ∧ es.all noStar = true
  | [], .nil, [], _ => ⟨pa_nil, rfl⟩
  | [], .nil, _ :: _, h => by simp [ckM] at h
  | [], .cons _ _, _, h => by simp [ckM] at h
  | _ :: _, .nil, _, h => by simp [ckM] at h
  | _ :: _, .cons _ _, [], h => by simp [ckM] at h
  | o :: os, .cons x xs, e :: es, h => by
    simp only [ckM, Bool.and_eq_true, Bool.or_eq_true, Bool.not_eq_true'] at h
    obtain ⟨⟨⟨h1, h2⟩, h3⟩, h4⟩ := h
    have g := okE x _ X e W h2
    have ga := okM W os xs es h4
    have hm : PE X e (tM X.K P G o x) := by
      cases o with
      | true => exact g.po (h3.resolve_left (by decide))
      | false => exact g.pe
    exact ⟨pa_cons hm ga.1 (star1 h1), by rw [List.all_cons, h1, ga.2]; rfl⟩
theorem zip_back {α β : Type} : ∀ l : List (α × β), (l.map (·.1)).zip (l.map (·.2)) = l
  | [] => rfl
  | p :: l => by rw [List.map_cons, List.map_cons, List.zip_cons_cons, zip_back l]
theorem chkNs_lt {N : List Str} {sc : Scope} {is : List Nat} {es : List Expr} (h : chkNs N sc is es = true) : ∀ i ∈ is, i < N.length := fun i hi => by
  obtain ⟨j, hj, e⟩ := List.getElem_of_mem hi
  obtain ⟨x, p, _, h2, _⟩ := (chkNs_ok h).2.2 j i (by rw [List.getElem?_eq_getElem hj, e])
  exact (List.getElem?_eq_some_iff.mp h2).1
theorem chkP_lt {N : List Str} {sc : Scope} {pt : Pat} {e : Expr} (h : chkP N sc pt e = true) : ∀ i ∈ ptVars pt, i < N.length := by
  cases pt with
  | v i =>
    intro j hj
    obtain rfl := List.mem_singleton.mp hj
    cases e <;> first
      | (simp [chkP] at h; done)
      | (simp only [chkP, Bool.and_eq_true, decide_eq_true_eq] at h
         exact (List.getElem?_eq_some_iff.mp h.1).1)
  | t is =>
    cases e <;> first
      | (simp [chkP] at h; done)
      | (simp only [chkP] at h
         exact chkNs_lt h)
theorem tm_of {X : Cx} {o : Bool} {x : Ex} {e : Expr} (g : Good z X P G x e) (h : o = false ∨ isO z x = true) : PE X e (tM X.K P G o x) := by
  cases o with
  | true => exact g.po (h.resolve_left (by decide))
  | false => exact g.pe
theorem lt_of_get {N : List Str} {i : Nat} {x : Str} (h : N[i]? = some x) : i < N.length := (List.getElem?_eq_some_iff.mp h).1
theorem ckTs_ok {X : Cx} (W : WdS X z P G k Wt) : ∀ (is : List Nat) (ixs jxs : Exs) (ts : List Expr), ckTs z X.env.scope is ixs jxs ts = true → PGs X ts (gS X.K P G is ixs jxs) ∧ ts.all isTg = true ∧ is.length = ts.length ∧ ∀ i ∈ is, i < X.N.length
  | [], .nil, .nil, [], _ => ⟨pgs_nil, rfl, rfl, fun _ h => absurd h List.not_mem_nil⟩
  | [], .nil, .nil, _ :: _, h => by cases h
  | [], .nil, .cons _ _, ts, h => by cases ts <;> cases h
  | [], .cons _ _, jxs, ts, h => by cases jxs <;> cases ts <;> cases h
  | _ :: _, .nil, jxs, ts, h => by cases jxs <;> cases ts <;> cases h
  | _ :: _, .cons _ _, .nil, ts, h => by cases ts <;> cases h
  | _ :: _, .cons _ _, .cons _ _, [], h => by cases h
  | i :: is, .cons ix ixs, .cons jx jxs, t :: ts, h => by
    unfold ckTs at h
    rw [Bool.and_eq_true] at h
    obtain ⟨h1, h2⟩ := h
    obtain ⟨g1, g2, g3, g4⟩ := ckTs_ok W is ixs jxs ts h2
    split at h1
    · rename_i x p
      simp only [Bool.and_eq_true, decide_eq_true_eq] at h1
      obtain ⟨⟨k1, k2⟩, k3⟩ := h1
      have e : X.N[i]? = some x := by rw [W.eqN]; exact k2
      have bf := binds_fn W.fn x k3
      refine ⟨?_, by rw [List.all_cons, g2]; rfl, congrArg (· + 1) g3, fun j hj => ?_⟩
      · have := pgs_cons (pg_name (pos := p) (W.eqN ▸ W.nd) e bf.1 bf.2) g1 (tgs_cons rfl)
        unfold gS
        rw [if_pos k1]
        exact this
      · rcases List.mem_cons.mp hj with rfl | hj
        · exact (List.getElem?_eq_some_iff.mp e).1
        · exact g4 j hj
    · rename_i y p0 e0 p1
      simp only [Bool.and_eq_true, Bool.not_eq_true'] at h1
      obtain ⟨⟨⟨⟨⟨k1, k1'⟩, k2⟩, k3⟩, k4⟩, k5⟩ := h1
      obtain ⟨n1, n2, n3, n4⟩ := atN_ok W.toWd k2
      refine ⟨?_, by rw [List.all_cons, g2]; simp [isTg, k5], congrArg (· + 1) g3, fun j hj => ?_⟩
      · have := pgs_cons (pgSub (ppos := p1) (peB (pos := p0) n1 n2 n3 n4) (okE ix _ X _ W.toWd k3).pe k5) g1 (tgs_cons (by simp [isTg, k5]))
        unfold gS
        rw [if_neg (by rw [k1]; decide), if_pos k1']
        exact this
      · rcases List.mem_cons.mp hj with rfl | hj
        · exact (List.getElem?_eq_some_iff.mp n1).1
        · exact g4 j hj
    · rename_i y p0 e0 p1 e2 p2
      simp only [Bool.and_eq_true, Bool.not_eq_true'] at h1
      obtain ⟨⟨⟨⟨⟨⟨⟨⟨k1, k1'⟩, k2⟩, k3⟩, k4⟩, k5⟩, k6⟩, k7⟩, k8⟩ := h1
      obtain ⟨n1, n2, n3, n4⟩ := atN_ok W.toWd k2
      refine ⟨?_, by rw [List.all_cons, g2]; simp [isTg, k8], congrArg (· + 1) g3, fun j hj => ?_⟩
      · have := pgs_cons (pgSub2 (p1 := p1) (py := p0) (ppos := p2) n1 n2 n3 n4 (okE ix _ X _ W.toWd k3).pe k4 k5 (okE jx _ X _ W.toWd k6).pe k8) g1 (tgs_cons (by simp [isTg, k8]))
        unfold gS
        rw [if_neg (by rw [k1]; decide), if_neg (by rw [k1']; decide)]
        exact this
      · rcases List.mem_cons.mp hj with rfl | hj
        · exact (List.getElem?_eq_some_iff.mp n1).1
        · exact g4 j hj
    · cases h1
theorem swLc {X : Cx} {i : Nat} {y : Str} {py pos pos' : Pos} {el : Expr} {gens : List Comprehension} {scope : Scope} {own : List Nat} {pt : Pat} {sk : SK} {src cnd : Exs} {elt : Ex} (W : WdS X z P G k Wt) (h2 : ckE z X.env.scope (.lc own pt sk src cnd elt) (.ListComp el gens scope pos') = true) (n1 : X.N[i]? = some y)
    (hw : swB X.env.scope y py pos' scope = true) : PS X (.Assign [.Name y py] (.ListComp el gens scope pos') pos) (tAsg (tO X.K P G (.lc own pt sk src cnd elt)) (gName i)) := by
  unfold ckE at h2
  split at h2
  · rename_i el' g' scope' pos'' he
    cases he
    simp only [Bool.and_eq_true, decide_eq_true_eq, Bool.not_eq_true', List.all_eq_true] at h2
    obtain ⟨⟨⟨⟨⟨⟨⟨⟨⟨⟨⟨k1, k2⟩, k3⟩, k4⟩, k5⟩, k6⟩, k7⟩, k8⟩, k9⟩, k10⟩, k11⟩, k12⟩ := h2
    obtain ⟨tg, iter, ifs, asy⟩ := g'
    dsimp only at k1 k6 k7 k8 k9
    subst k1
    unfold swB at hw
    simp only [Bool.and_eq_true, Bool.not_eq_true'] at hw
    obtain ⟨⟨w1, w2⟩, w3⟩ := hw
    split at k8
    · rename_i l hl
      rw [Bool.and_eq_true] at k8
      have hi := src_ok W.toWd hl (okA src _ X l W.toWd k8.1) k8.2
      have hix : ∀ i ∈ own, i < X.N.length := by rw [W.eqN]; exact k4
      refine (psLc (own := own) (ownP := ownNs z own) W.calm (by rw [W.eqN]; exact W.nd) hi (by rw [W.eqN]; exact blkOk_by k2) (visOwn k4) (fun i hi => by simpa using k3 i hi) hix k5 (by rw [W.eqN]; exact k6) (fun s H C cl fp => ?_) (fun s H C cl fp => ?_) k7 n1 (lcl_ok w1) W.kind w2 w3)
      · have gc := okA cnd _ (X.blk s H scope (compEnvC scope cl C X.env) fp) ifs (W.toWd.blk _ _ _ _ _ _) k9
        have hln := gc.len
        cases cnd with
        | nil =>
          cases ifs with
          | nil => exact ptsN
          | cons _ _ => simp [exsLen] at hln
        | cons c cs =>
          cases cs with
          | cons _ _ => simp [exsLen] at k11
          | nil =>
            obtain ⟨y, rfl, gy⟩ := gc.one c rfl
            refine pts1 (gy.pt ?_)
            unfold noB at k10
            rw [Bool.and_eq_true, Bool.not_eq_true'] at k10
            exact k10.1
      · exact (okE elt _ (X.blk s H scope (compEnvC scope cl C X.env) fp) el (W.toWd.blk _ _ _ _ _ _) k12).pe
    · cases k8
  · cases h2
theorem lcm_parts {X : Cx} {el : Expr} {gens : List Comprehension} {scope : Scope} {pos' : Pos} {own : List Nat} {pt : Pat} {sk : SK} {src cnd : Exs} {elt : Ex} (W : Wd X z P G k) (h2 : ckE z X.env.scope (.lcm own pt sk src cnd elt) (.ListComp el gens scope pos') = true) (ho : isO z elt = true) :
    ∃ tg iter ifs, gens = [⟨tg, iter, ifs, 0⟩] ∧ PI X tg iter (tI X.K P G sk src) ∧ BlkOk X.N X.env.scope scope (ownNs z own) ∧ (ownNs z own).map (·.2) = own ∧ (∀ i ∈ ptVars pt, i ∈ own) ∧ (∀ i ∈ own, i < X.N.length) ∧ chkP X.N scope pt tg = true ∧
      (∀ (s : Shared) (H : Hp) (C : Addr) (cl : List (Str × Addr)) (fp : List Addr), PTs (X.blk s H scope (compEnvC scope cl C X.env) fp) ifs (tC1 X.K P G cnd)) ∧
      (∀ (s : Shared) (H : Hp) (C : Addr) (cl : List (Str × Addr)) (fp : List Addr), PE (X.blk s H scope (compEnvC scope cl C X.env) fp) el (tO X.K P G elt)) ∧ notSet iter = true := by
  unfold ckE at h2
  split at h2
  · rename_i el' g' scope' pos'' he
    cases he
    simp only [Bool.and_eq_true, decide_eq_true_eq, Bool.not_eq_true', List.all_eq_true] at h2
    obtain ⟨⟨⟨⟨⟨⟨⟨⟨⟨⟨⟨k1, k2⟩, k3⟩, k4⟩, k5⟩, k6⟩, k7⟩, k8⟩, k9⟩, k10⟩, k11⟩, k12⟩ := h2
    obtain ⟨tg, iter, ifs, asy⟩ := g'
    dsimp only at k1 k6 k7 k8 k9
    subst k1
    split at k8
    · rename_i l hl
      rw [Bool.and_eq_true] at k8
      have hi := src_ok W hl (okA src _ X l W k8.1) k8.2
      exact ⟨tg, iter, ifs, rfl, hi, by rw [W.eqN]; exact blkOk_by k2, visOwn k4, fun i hi => by simpa using k3 i hi, by rw [W.eqN]; exact k4, by rw [W.eqN]; exact k6,
        fun s H C cl fp => pts_ok (okA cnd _ (X.blk s H scope (compEnvC scope cl C X.env) fp) ifs (W.blk _ _ _ _ _ _) k9) k10 k11,
        fun s H C cl fp => (okE elt _ (X.blk s H scope (compEnvC scope cl C X.env) fp) el (W.blk _ _ _ _ _ _) k12).po ho, k7⟩
    · cases k8
  · cases h2
theorem swOk {X : Cx} {i : Nat} {y : Str} {py pos pos' : Pos} {el : Expr} {gens : List Comprehension} {scope : Scope} {x : Ex} (W : WdS X z P G k Wt) (h2 : ckE z X.env.scope x (.ListComp el gens scope pos') = true) (hlk : isLk x = false) (n1 : X.N[i]? = some y)
    (hw : swB X.env.scope y py pos' scope = true) : PS X (.Assign [.Name y py] (.ListComp el gens scope pos') pos) (tAsg (tO X.K P G x) (gName i)) := by
  cases x <;> first
    | (cases (show true = false from hlk); done)
    | (simp only [ckE] at h2; cases h2; done)
    | (simp only [ckE] at h2; split at h2 <;> cases h2; done)
    | (exact ⟨fun pins s σ H D I hh => by
        obtain ⟨en, φ, ok, d, en', he, q⟩ := hh
        cases he⟩)
    | skip
  rotate_left 2
  · rename_i own pt sk src cnd vs pt1 sk1 src1 cnd1 elt
    unfold ckE at h2
    split at h2
    · rename_i el' g' g1' scope' pos'' he
      cases he
      simp only [Bool.and_eq_true, decide_eq_true_eq, Bool.not_eq_true', List.all_eq_true] at h2
      obtain ⟨⟨⟨⟨⟨⟨⟨⟨⟨⟨⟨⟨⟨⟨⟨⟨⟨⟨⟨⟨k1, k1'⟩, k2⟩, k3⟩, k3'⟩, kv⟩, k4⟩, k5⟩, k6⟩, k6'⟩, k7⟩, k7'⟩, k8⟩, k8'⟩, k9⟩, k10⟩, k11⟩, k9'⟩, k10'⟩, k11'⟩, k12⟩ := h2
      obtain ⟨tg, iter, ifs, asy⟩ := g'
      obtain ⟨tg1, iter1, ifs1, asy1⟩ := g1'
      dsimp only at k1 k1' k6 k6' k7 k7' k8 k8' k9 k9'
      subst k1
      subst k1'
      unfold swB at hw
      simp only [Bool.and_eq_true, Bool.not_eq_true'] at hw
      obtain ⟨⟨w1, w2⟩, w3⟩ := hw
      split at k8
      · rename_i l hl
        split at k8'
        · rename_i l1 hl1
          rw [Bool.and_eq_true] at k8 k8'
          have hi := src_ok W.toWd hl (okA src _ X l W.toWd k8.1) k8.2
          have hix : ∀ i ∈ own, i < X.N.length := by rw [W.eqN]; exact k4
          exact (psLc2 (own := own) (ownP := ownNs z own) W.calm (by rw [W.eqN]; exact W.nd) hi (by rw [W.eqN]; exact blkOk_by k2) (visOwn k4) (fun i hi => by simpa using k3 i hi) (fun i hi => by simpa using k3' i hi) (fun i hi => by simpa using kv i hi) hix k5 (by rw [W.eqN]; exact k6) (by rw [W.eqN]; exact k6')
            (fun s H C cl fp => pts_ok (okA cnd _ (X.blk s H scope (compEnvC scope cl C X.env) fp) ifs (W.toWd.blk _ _ _ _ _ _) k9) k10 k11)
            (fun s H C cl fp => src_ok (W.toWd.blk s H scope cl C fp) hl1 (okA src1 _ (X.blk s H scope (compEnvC scope cl C X.env) fp) l1 (W.toWd.blk _ _ _ _ _ _) k8'.1) k8'.2)
            (fun s H C cl fp => pts_ok (okA cnd1 _ (X.blk s H scope (compEnvC scope cl C X.env) fp) ifs1 (W.toWd.blk _ _ _ _ _ _) k9') k10' k11')
            (fun s H C cl fp => (okE elt _ (X.blk s H scope (compEnvC scope cl C X.env) fp) el (W.toWd.blk _ _ _ _ _ _) k12).pe) k7 k7' n1 (lcl_ok w1) W.kind w2 w3)
        · cases k8'
      · cases k8
    · cases h2
  · rename_i own pt sk src cnd elt
    exact swLc W h2 n1 hw
  · rename_i own pt sk src cnd elt
    exact swLc W h2 n1 hw
theorem namesAt_ok {X : Cx} (W : Wd X z P G k) : ∀ (is : List Nat) (xs : List Str), namesAt z X.env.scope is xs = true → is.length = xs.length ∧ ∀ (k i : Nat) (x : Str), is[k]? = some i → xs[k]? = some x → X.N[i]? = some x ∧ Vis X.env.scope x ∧ (x == ("__debug__" : Str)) = false ∧ (x == ("__classdict__" : Str)) = false
  | [], [], _ => ⟨rfl, fun k i x h => by simp at h⟩
  | [], _ :: _, h => by cases h
  | _ :: _, [], h => by cases h
  | i :: is, x :: xs, h => by
    unfold namesAt at h
    rw [Bool.and_eq_true] at h
    obtain ⟨a, b⟩ := namesAt_ok W is xs h.2
    refine ⟨congrArg (· + 1) a, fun k j y hj hy => ?_⟩
    cases k with
    | zero =>
      have e1 : i = j := by simpa using hj
      have e2 : x = y := by simpa using hy
      subst e1
      subst e2
      exact atN_ok W h.1
    | succ k => exact b k j y (by simpa using hj) (by simpa using hy)
theorem ini_ok {X : Cx} {c : Nat} {is : List Nat} {l : List Stmt} (W : WdS X z P G k Wt) (h : ckIni z X.env.scope c is l = true) : PSs X l (tSs X.K P G Wt (.cons (.ini c is) .nil)) := by
  unfold ckIni at h
  split at h
  · rename_i p s ss hp hN
    obtain ⟨cn, fi, ns⟩ := p
    simp only [Bool.and_eq_true, decide_eq_true_eq] at h
    obtain ⟨⟨⟨⟨⟨⟨⟨h1, h2⟩, h3⟩, h4⟩, h5⟩, h6⟩, h7⟩, h8⟩ := h
    obtain ⟨c1, c2, C, c3, c4, c5, c6, c7⟩ := W.cs c cn fi ns hp
    obtain ⟨a, b⟩ := namesAt_ok W.toWd _ _ h7
    have hs : s ∈ z.N := by rw [hN]; exact List.mem_cons_self
    obtain ⟨d1, d2⟩ := W.okN s hs
    rw [← h1] at h5
    exact psIni c3 c2 h2 h3 (by rw [W.eqN, hN]; rfl) (vis_of h4) d1 d2 c5 h5 h6 c7 a h8 b
  · cases h
theorem fnB_ok {X : Cx} (W : WdS X z P G k Wt) {f : Nat} {x : Str} (h : fnB z f x = true) : ∃ n, z.fs[f]? = some (none, x, n, .dat) := by
  unfold fnB at h
  split at h
  · rename_i p hf
    obtain ⟨md, nm, n, o⟩ := p
    simp only [Bool.and_eq_true, decide_eq_true_eq] at h
    obtain ⟨⟨rfl, rfl⟩, rfl⟩ := h
    exact ⟨n, hf⟩
  · cases h
mutual
theorem okS : ∀ (x : Sx) (Wt : WX) (X : Cx) (s : Stmt), WdS X z P G k Wt → ckS z X.env.scope x s = true → PS X s (tS X.K P G Wt x)
  | .asg i x, Wt, X, s, W, h => by
    unfold ckS at h
    split at h
    · simp only [Bool.and_eq_true, Bool.not_eq_true'] at h
      obtain ⟨⟨⟨h1, h2⟩, h3⟩, h4⟩ := h
      obtain ⟨n1, n2, n3⟩ := tgN_ok W h1
      exact psAsg (W.eqN ▸ W.nd) n1 n2 n3 (okE x _ X _ W.toWd h2).pe h3 (swaps_no h4)
    · cases h
  | .asgO i x, Wt, X, s, W, h => by
    unfold ckS at h
    split at h
    · rename_i y py e pos
      simp only [Bool.and_eq_true, Bool.or_eq_true] at h
      obtain ⟨⟨⟨h1, h2⟩, h3⟩, h4⟩ := h
      obtain ⟨n1, n2, n3⟩ := tgN_ok W h1
      have g := okE x _ X _ W.toWd h2
      rcases h4 with h4 | h4
      · exact psAsgO (W.eqN ▸ W.nd) n1 n2 n3 (g.po h3) (swaps_no h4)
      · split at h4
        · rename_i el gens scope pos'
          cases hw : swB X.env.scope y py pos' scope with
          | false => exact psAsgO (W.eqN ▸ W.nd) n1 n2 n3 (g.po h3) (by rw [sw_lc W.kind, hw])
          | true =>
            cases hk : isLk x with
            | false => exact psAsgO' n1 (swOk W h2 hk n1 hw)
            | true =>
              cases x <;> try cases hk
              rename_i j a
              unfold ckE at h2
              rw [Bool.and_eq_true, Bool.and_eq_true, Bool.and_eq_true, Bool.not_eq_true'] at h2
              exact psAsgO' n1 (psLk (swOk W h2.2 h2.1.1.2 n1 hw))
        · cases h4
    · cases h
  | .parS is ixs jxs xs, Wt, X, s, W, h => by
    unfold ckS at h
    split at h
    · simp only [Bool.and_eq_true, decide_eq_true_eq] at h
      obtain ⟨⟨⟨⟨⟨⟨⟨h1, h2⟩, h2'⟩, h2''⟩, h3⟩, h4⟩, h5⟩, h6⟩ := h
      obtain ⟨g1, g2, g3, g4⟩ := ckTs_ok W is ixs jxs _ h1
      split at h6
      · rename_i hw
        exact psParS W.calm g4 g3 h2 h2' h2'' h4 h5 (okA xs _ X _ W.toWd h3).pa g1 g2 hw
      · cases h6
    · cases h
  | .asgT is x, Wt, X, s, W, h => by
    unfold ckS at h
    split at h
    · simp only [Bool.and_eq_true, Bool.not_eq_true'] at h
      obtain ⟨⟨⟨⟨h1, h2⟩, h3⟩, h4⟩, h5⟩ := h
      exact psAsgT (by rw [W.eqN]; exact chkNs_lt h1) (okE x _ X _ W.toWd h2).pe h3 (pgP (pt := .t is) (W.eqN ▸ W.nd) W.calm (binds_fn W.fn) (by rw [W.eqN]; exact h1)) h4 (swapped_no h5)
    · cases h
  | .par l xs, Wt, X, s, W, h => by
    unfold ckS at h
    split at h
    · rename_i ts _ _ es _ _ _
      simp only [Bool.and_eq_true, decide_eq_true_eq] at h
      obtain ⟨⟨⟨⟨h1, h2⟩, h3⟩, h4⟩, h5⟩ := h
      have gm := okM W.toWd _ _ _ h2
      have hN : X.N.Nodup := W.eqN ▸ W.nd
      split at h5
      · rename_i hw
        rw [← zip_back l]
        exact psParT (by rw [W.eqN]; exact chkNs_lt h1) (by simp) h3 h4 gm.1 (pgP (pt := .t (l.map (·.1))) hN W.calm (binds_fn W.fn) (by rw [W.eqN]; exact h1)) hw
      · rename_i r hw
        unfold ckW at h5
        split at h5
        · rename_i i o1 j o2 x px y py a b
          simp only [Bool.and_eq_true, decide_eq_true_eq] at h5
          obtain ⟨⟨⟨rfl, k1⟩, k2⟩, k3⟩ := h5
          have c := (chkNs_ok h1).2.2
          obtain ⟨_, _, e1, n1, _⟩ := c 0 i rfl
          obtain ⟨_, _, e2, n2, _⟩ := c 1 j rfl
          cases e1; cases e2
          cases xs with
          | nil => simp [ckM] at h2
          | cons x1 xs =>
            cases xs with
            | nil => simp [ckM] at h2
            | cons x2 xs =>
              cases xs with
              | cons _ _ => simp [ckM] at h2
              | nil =>
                simp only [List.map_cons, List.map_nil, ckM, Bool.and_eq_true, Bool.or_eq_true, Bool.not_eq_true'] at h2
                obtain ⟨⟨⟨a1, a2⟩, a3⟩, ⟨⟨b1, b2⟩, b3⟩, _⟩ := h2
                exact psPar2 W.calm hN (W.eqN ▸ n1) (W.eqN ▸ n2) k1 (lcl_ok k2) (lcl_ok k3) (tm_of (okE x1 _ X _ W.toWd a2) a3) (tm_of (okE x2 _ X _ W.toWd b2) b3) a1 b1 h3 hw
        · rename_i i o1 j o2 k o3 x px y py w pw a b c
          simp only [Bool.and_eq_true, decide_eq_true_eq] at h5
          obtain ⟨⟨⟨⟨⟨⟨rfl, k1⟩, k2⟩, k3⟩, k4⟩, k5⟩, k6⟩ := h5
          have c := (chkNs_ok h1).2.2
          obtain ⟨_, _, e1, n1, _⟩ := c 0 i rfl
          obtain ⟨_, _, e2, n2, _⟩ := c 1 j rfl
          obtain ⟨_, _, e3, n3, _⟩ := c 2 k rfl
          cases e1; cases e2; cases e3
          cases xs with
          | nil => simp [ckM] at h2
          | cons x1 xs =>
            cases xs with
            | nil => simp [ckM] at h2
            | cons x2 xs =>
              cases xs with
              | nil => simp [ckM] at h2
              | cons x3 xs =>
                cases xs with
                | cons _ _ => simp [ckM] at h2
                | nil =>
                  simp only [List.map_cons, List.map_nil, ckM, Bool.and_eq_true, Bool.or_eq_true, Bool.not_eq_true'] at h2
                  obtain ⟨⟨⟨a1, a2⟩, a3⟩, ⟨⟨b1, b2⟩, b3⟩, ⟨⟨c1, c2⟩, c3⟩, _⟩ := h2
                  exact psPar3 W.calm hN (W.eqN ▸ n1) (W.eqN ▸ n2) (W.eqN ▸ n3) k1 k2 k3 (lcl_ok k4) (lcl_ok k5) (lcl_ok k6) (tm_of (okE x1 _ X _ W.toWd a2) a3) (tm_of (okE x2 _ X _ W.toWd b2) b3) (tm_of (okE x3 _ X _ W.toWd c2) c3) a1 b1 c1 h3 hw
        · cases h5
      · cases h5
    · cases h
  | .asgM i x, Wt, X, s, W, h => by
    unfold ckS at h
    split at h
    · rename_i y py e pos
      simp only [Bool.and_eq_true] at h
      obtain ⟨⟨⟨h1, h2⟩, h3⟩, h4⟩ := h
      obtain ⟨n1, n2, n3⟩ := tgN_ok W h1
      cases x <;> try (cases h3; done)
      rename_i own pt sk src cnd elt
      cases e <;> try (cases h4; done)
      rename_i el gens scope pos'
      obtain ⟨tg, iter, ifs, rfl, q1, q2, q3, q4, q5, q6, q7, q8, q9⟩ := lcm_parts W.toWd h2 h3
      cases hw : swB X.env.scope y py pos' scope with
      | false => exact psAsgM (W.eqN ▸ W.nd) n1 n2 n3 (peLcM W.calm (W.eqN ▸ W.nd) q1 q2 q3 q4 q5 q6 q7 q8 q9) (by rw [sw_lc W.kind, hw])
      | true =>
        unfold swB at hw
        simp only [Bool.and_eq_true, Bool.not_eq_true'] at hw
        obtain ⟨⟨w1, w2⟩, w3⟩ := hw
        exact psAsgM' n1 (psLcM W.calm (W.eqN ▸ W.nd) q1 q2 q3 q4 q5 q6 q7 q8 q9 n1 (lcl_ok w1) W.kind w2 w3)
    · cases h
  | .setII i ix jx x, Wt, X, s, W, h => by
    unfold ckS at h
    split at h
    · simp only [Bool.and_eq_true, Bool.not_eq_true'] at h
      obtain ⟨⟨⟨⟨⟨⟨⟨⟨⟨⟨h1, h2⟩, h3⟩, h4⟩, h5⟩, h6⟩, h7⟩, h8⟩, h9⟩, h10⟩, h11⟩ := h
      obtain ⟨n1, n2, n3, n4⟩ := atN_ok W.toWd h1
      exact psSetII n1 n2 n3 n4 (okE ix _ X _ W.toWd h2).pe h6 h8 h10 (okE jx _ X _ W.toWd h3).pe h7 h9 h11 (okE x _ X _ W.toWd h4).pe h5
    · cases h
  | .augII i ix jx op x, Wt, X, s, W, h => by
    unfold ckS at h
    split at h
    · simp only [Bool.and_eq_true, Bool.not_eq_true', decide_eq_true_eq] at h
      obtain ⟨⟨⟨⟨⟨⟨⟨⟨⟨⟨⟨⟨rfl, hp⟩, h1⟩, h2⟩, h3⟩, h4⟩, h5⟩, h6⟩, h7⟩, h8⟩, h9⟩, h10⟩, h11⟩ := h
      obtain ⟨n1, n2, n3, n4⟩ := atN_ok W.toWd h1
      exact psAugII n1 n2 n3 n4 (okE ix _ X _ W.toWd h2).pe h6 h8 h10 (okE jx _ X _ W.toWd h3).pe h7 h9 h11 (okE x _ X _ W.toWd h4).pe h5 hp
    · cases h
  | .ini _ _, Wt, X, s, W, h => by unfold ckS at h; cases h
  | .setI i ix x, Wt, X, s, W, h => by
    unfold ckS at h
    split at h
    · simp only [Bool.and_eq_true, Bool.not_eq_true'] at h
      obtain ⟨⟨⟨⟨⟨h1, h2⟩, h3⟩, h4⟩, h5⟩, h6⟩ := h
      obtain ⟨n1, n2, n3, n4⟩ := atN_ok W.toWd h1
      exact psSetI (peB n1 n2 n3 n4) (okE ix _ X _ W.toWd h2).pe (okE x _ X _ W.toWd h3).pe h4 h5 h6
    · cases h
  | .dsetI i ix x, Wt, X, s, W, h => by
    unfold ckS at h
    split at h
    · simp only [Bool.and_eq_true, Bool.not_eq_true'] at h
      obtain ⟨⟨⟨⟨⟨h1, h2⟩, h3⟩, h4⟩, h5⟩, h6⟩ := h
      obtain ⟨n1, n2, n3, n4⟩ := atN_ok W.toWd h1
      have hu : X.A.units + 1 < cLine := by have := W.room.un; omega
      exact psDset hu (peB n1 n2 n3 n4) (okE ix _ X _ W.toWd h2).pe (okE x _ X _ W.toWd h3).pe h4 h5 h6
    · cases h
  | .ext i x, Wt, X, s, W, h => by
    unfold ckS at h
    split at h
    · simp only [Bool.and_eq_true, decide_eq_true_eq] at h
      obtain ⟨⟨⟨⟨⟨rfl, h2⟩, h3⟩, h4⟩, h5⟩, h6⟩ := h
      obtain ⟨n1, n2, n3, n4⟩ := atN_ok W.toWd h2
      exact psExt (peB n1 n2 n3 n4) ((okE x _ X _ W.toWd h3).po h4) h5 h6
    · cases h
  | .rem i x, Wt, X, s, W, h => by
    unfold ckS at h
    split at h
    · simp only [Bool.and_eq_true, Bool.not_eq_true', decide_eq_true_eq] at h
      obtain ⟨⟨⟨⟨⟨rfl, h2⟩, h3⟩, h4⟩, h5⟩, h6⟩ := h
      obtain ⟨n1, n2, n3, n4⟩ := atN_ok W.toWd h2
      exact psRem (peB n1 n2 n3 n4) (okE x _ X _ W.toWd h3).pe h4 h5 h6
    · cases h
  | .insX i ix x, Wt, X, s, W, h => by
    unfold ckS at h
    split at h
    · simp only [Bool.and_eq_true, Bool.not_eq_true', decide_eq_true_eq] at h
      obtain ⟨⟨⟨⟨⟨⟨⟨⟨rfl, h2⟩, h3⟩, h4⟩, h5⟩, h6⟩, h7⟩, h8⟩, h9⟩ := h
      obtain ⟨n1, n2, n3, n4⟩ := atN_ok W.toWd h2
      exact psIns (peB n1 n2 n3 n4) (okE ix _ X _ W.toWd h3).pe (okE x _ X _ W.toWd h5).pe h4 h6 h7 h8 h9
    · cases h
  | .app i x, Wt, X, s, W, h => by
    unfold ckS at h
    split at h
    · simp only [Bool.and_eq_true, Bool.not_eq_true', decide_eq_true_eq] at h
      obtain ⟨⟨⟨⟨⟨rfl, h2⟩, h3⟩, h4⟩, h5⟩, h6⟩ := h
      obtain ⟨n1, n2, n3, n4⟩ := atN_ok W.toWd h2
      exact psApp (peB n1 n2 n3 n4) (okE x _ X _ W.toWd h3).pe h4 h5 h6
    · cases h
  | .aug i op x, Wt, X, s, W, h => by
    unfold ckS at h
    split at h
    · simp only [Bool.and_eq_true, Bool.not_eq_true', decide_eq_true_eq] at h
      obtain ⟨⟨⟨⟨rfl, h2⟩, h3⟩, h4⟩, h5⟩ := h
      obtain ⟨n1, n2, n3⟩ := tgN_ok W h3
      exact psAug (W.eqN ▸ W.nd) n1 n2 n3 (okE x _ X _ W.toWd h4).pe h5 h2
    · cases h
  | .augI i ix op x, Wt, X, s, W, h => by
    unfold ckS at h
    split at h
    · simp only [Bool.and_eq_true, Bool.not_eq_true', decide_eq_true_eq] at h
      obtain ⟨⟨⟨⟨⟨⟨⟨rfl, h2⟩, h3⟩, h4⟩, h5⟩, h6⟩, h7⟩, h8⟩ := h
      obtain ⟨n1, n2, n3, n4⟩ := atN_ok W.toWd h3
      exact psAugI (peB n1 n2 n3 n4) (okE ix _ X _ W.toWd h4).pe (okE x _ X _ W.toWd h5).pe h6 h7 h8 h2
    · cases h
  | .ret x, Wt, X, s, W, h => by
    unfold ckS at h
    split at h
    · simp only [Bool.and_eq_true, Bool.not_eq_true'] at h
      exact psRet (okE x _ X _ W.toWd h.1).pe h.2
    · cases h
  | .retN, Wt, X, s, W, h => by
    unfold ckS at h
    split at h
    · exact psRetN
    · cases h
  | .retO i, Wt, X, s, W, h => by
    unfold ckS at h
    split at h
    · obtain ⟨n1, n2, n3, n4⟩ := atN_ok W.toWd h
      exact psRetO (peB n1 n2 n3 n4)
    · cases h
  | .retL t x, Wt, X, s, W, h => by
    unfold ckS at h
    split at h
    · simp only [Bool.and_eq_true, decide_eq_true_eq] at h
      exact psRetL ((okE x _ X _ W.toWd h.1.1).po h.1.2) (by rw [W.eqN]; exact h.2)
    · cases h
  | .ife c a b, Wt, X, s, W, h => by
    unfold ckS at h
    split at h
    · simp only [Bool.and_eq_true, Bool.not_eq_true'] at h
      obtain ⟨⟨⟨h1, h2⟩, h3⟩, h4⟩ := h
      exact psIf ((okE c _ X _ W.toWd h1).pt h2) (okB a _ X _ W h3) (okB b _ X _ W h4)
    · cases h
  | .whl c a, Wt, X, s, W, h => by
    unfold ckS at h
    split at h
    · simp only [Bool.and_eq_true, Bool.not_eq_true'] at h
      obtain ⟨⟨h1, h2⟩, h3⟩ := h
      exact psWhl W.pass ((okE c _ X _ W.toWd h1).pt h2) (okB a _ X _ W h3)
    · cases h
  | .forr pt sk src a, Wt, X, s, W, h => by
    unfold ckS at h
    split at h
    · simp only [Bool.and_eq_true] at h
      obtain ⟨⟨⟨h1, h2⟩, h3⟩, h4⟩ := h
      split at h3
      · rename_i es hl
        rw [Bool.and_eq_true] at h3
        exact psFor W.pass W.calm (src_ok W.toWd hl (okA src _ X es W.toWd h3.1) h3.2) (pgP (W.eqN ▸ W.nd) W.calm (binds_fn W.fn) (by rw [W.eqN]; exact h1)) (okB a _ X _ W h4) h2 (by rw [W.eqN]; exact chkP_lt h1)
      · cases h3
    · cases h
  | .brk, Wt, X, s, W, h => by
    unfold ckS at h
    split at h
    · exact psBrk
    · cases h
  | .cnt, Wt, X, s, W, h => by
    unfold ckS at h
    split at h
    · exact psCnt
    · cases h
  | .pass, Wt, X, s, W, h => by
    unfold ckS at h
    split at h
    · exact psPass
    · cases h
  | .expr x, Wt, X, s, W, h => by
    unfold ckS at h
    split at h
    · rw [Bool.and_eq_true] at h
      exact psExpr (okE x _ X _ W.toWd h.1).pe h.2
    · cases h
  | .fz _, Wt, X, s, W, h => by unfold ckS at h; cases h
  | .raise c x, Wt, X, s, W, h => by
    unfold ckS at h
    split at h
    · simp only [Bool.and_eq_true, Bool.not_eq_true', decide_eq_true_eq] at h
      obtain ⟨⟨⟨⟨h1, h2⟩, h3⟩, h4⟩, h5⟩ := h
      exact psRaise W.calm W.tk (W.xs c _ h1) W.room (gl_of h2) h3 h4 (okA _ _ X _ W.toWd h5).pa
    · cases h
  | .exprX f xs, Wt, X, s, W, h => by
    unfold ckS at h
    split at h
    · simp only [Bool.and_eq_true] at h
      obtain ⟨⟨⟨h1, h2⟩, h3⟩, h4⟩ := h
      obtain ⟨n, hf⟩ := fnB_ok W h1
      obtain ⟨hd, a, fd, ps, q1, q2, q3, q4, q5, q6⟩ := W.fs f _ n _ hf
      have ga := okA xs _ X _ W.toWd h4
      exact psExprX W.tk q3 (W.room.mono (Nat.le_succ _)) (gl_of h2) q1 q2 q4 q5 q6 h3 ga.ns hd ga.pa
    · cases h
  | .asgX i f xs, Wt, X, s, W, h => by
    unfold ckS at h
    split at h
    · simp only [Bool.and_eq_true] at h
      obtain ⟨⟨⟨⟨h0, h1⟩, h2⟩, h3⟩, h4⟩ := h
      obtain ⟨n1, n2, n3⟩ := tgN_ok W h0
      obtain ⟨n, hf⟩ := fnB_ok W h1
      obtain ⟨hd, a, fd, ps, q1, q2, q3, q4, q5, q6⟩ := W.fs f _ n _ hf
      have ga := okA xs _ X _ W.toWd h4
      exact psAsgX (W.eqN ▸ W.nd) n1 n2 n3 W.tk q3 (W.room.mono (Nat.le_succ _)) (gl_of h2) q1 q2 q4 q5 q6 h3 ga.ns hd ga.pa
    · cases h
  | .retX f xs, Wt, X, s, W, h => by
    unfold ckS at h
    split at h
    · simp only [Bool.and_eq_true] at h
      obtain ⟨⟨⟨h1, h2⟩, h3⟩, h4⟩ := h
      obtain ⟨n, hf⟩ := fnB_ok W h1
      obtain ⟨hd, a, fd, ps, q1, q2, q3, q4, q5, q6⟩ := W.fs f _ n _ hf
      have ga := okA xs _ X _ W.toWd h4
      exact psRetX W.tk q3 (W.room.mono (Nat.le_succ _)) (gl_of h2) q1 q2 q4 q5 q6 h3 ga.ns hd ga.pa
    · cases h
  | .tryx b i hs, Wt, X, s, W, h => by
    unfold ckS at h
    split at h
    · rename_i body t n hb hp cs pos
      simp only [Bool.and_eq_true, decide_eq_true_eq] at h
      obtain ⟨⟨⟨⟨g1, g2⟩, g3⟩, g4⟩, g5⟩ := h
      have ok := W.okN n (List.mem_of_getElem? g1)
      refine psTry W.stk W.frm (W.eqN ▸ W.nd) (W.eqN ▸ g1) g2 ok.1 ok.2 W.tk W.em (W.xf.resolve_left g3) g4 fun W' pn xe tk po => okB b _ (X.tr pn xe) body ⟨⟨W.calm, W.nd, W.eqN, W.okN, W.nb, W.gc, W.fs, W.ms, W.cs, W.as, W.lam, W.room⟩, tk, W.xs, W.fn, po, W.kind, W.stk, W.frm, W.em, W.xf⟩ g5
    · cases h
  | .bad, Wt, X, s, W, h => ⟨fun pins s σ H D I hh => by
      obtain ⟨en, φ, ok, d, en', he, q⟩ := hh
      cases he⟩
theorem okB : ∀ (b : Blk) (Wt : WX) (X : Cx) (l : List Stmt), WdS X z P G k Wt → ckB z X.env.scope b l = true → PSs X l (tSs X.K P G Wt b)
  | .nil, Wt, X, l, W, h => by
    unfold ckB at h
    split at h
    · exact pssN
    · cases h
  | .cons s b, Wt, X, l, W, h => by
    unfold ckB at h
    split at h
    · rename_i hz
      cases s <;> try (cases hz; done)
      rename_i c is
      cases b <;> try (cases hz; done)
      exact ini_ok W h
    split at h
    · rename_i hz
      cases s <;> first | (cases hz; done) | exact pssZ (okB b _ X l W h)
    · split at h
      · rename_i hz
        cases s <;> first
          | (cases hz; done)
          | exact ⟨fun pins s σ H D I hh => by
              obtain ⟨en, φ, ok, d, en', he, q⟩ := hh
              cases he⟩
      · split at h
        · rw [Bool.and_eq_true] at h
          exact pssC (okS s _ X _ W h.1) (okB b _ X _ W h.2)
        · cases h
end
end Vi

/-! Vi, part 21: the defs of a module, and the law's end. -/
namespace Vi
open PySem PySem.Spec PyProof.Rows
open L2
variable [Wx]

theorem getS_app_l {en fn : En} {i : Nat} (h : i < en.length) : getS (en ++ fn) i = getS en i := by
  unfold getS
  rw [List.getD_eq_getElem?_getD, List.getD_eq_getElem?_getD, List.getElem?_append_left h]
theorem getS_out {en : En} {i : Nat} (h : en.length ≤ i) : getS en i = .no := by
  unfold getS
  rw [List.getD_eq_getElem?_getD, List.getElem?_eq_none h]; rfl
theorem getS_app_no {en : En} {m i : Nat} (h : en.length ≤ i) : getS (en ++ List.replicate m .no) i = .no := by
  unfold getS
  rw [List.getD_eq_getElem?_getD, List.getElem?_append_right h, List.getElem?_replicate]
  split <;> rfl
theorem env_ext {K : PySem.W.Frag} {H : Hp} {σ : L2.St} {en : En} {φ : Fp} (h : EnvOk K H σ en φ) (m : Nat) : EnvOk K H (σ ++ List.replicate m none) (en ++ List.replicate m .no) φ := by
  refine ⟨by rw [List.length_append, List.length_append, h.len, List.length_replicate, List.length_replicate], fun i => ?_, h.dis, h.tb⟩
  have q := h.slot i
  by_cases hi : i < en.length
  · rw [getS_app_l hi, List.getElem?_append_left (by rw [h.len]; exact hi)]
    exact q
  · rw [getS_app_no (by omega)]
    rw [getS_out (by omega)] at q
    exact q
theorem lentBack_len : ∀ {sl : List Slot} {en : En} {os : List (List D)}, lentBack sl en = some os → os.length = ows sl
  | [], _, _, h => by cases h; rfl
  | s :: sl, [], _, h => by cases s <;> cases h
  | s :: sl, e :: en, os, h => by
    cases s <;> try exact lentBack_len (sl := sl) (en := en) h
    rename_i xs
    unfold lentBack at h
    split at h
    · rename_i h2
      cases h
      exact congrArg (· + 1) (lentBack_len h2)
    · cases h
theorem okIo_len : ∀ {io : List Bool} {sl : List Slot}, okIo io sl = true → sl.length = io.length
  | [], [], _ => rfl
  | [], _ :: _, h => by cases h
  | true :: io, s :: sl, h => by
    cases s <;> first | (cases h; done) | exact congrArg (· + 1) (okIo_len (io := io) (sl := sl) h)
  | false :: io, s :: sl, h => by
    cases s <;> first | (cases h; done) | exact congrArg (· + 1) (okIo_len (io := io) (sl := sl) h)
  | true :: _, [], h => by cases h
  | false :: _, [], h => by cases h
theorem okIo_at : ∀ {io : List Bool} {sl : List Slot} {i : Nat}, okIo io sl = true → i < sl.length → (∃ d, getS sl i = .fz d) ∨ (io[i]? = some true ∧ ∃ xs, getS sl i = .ow xs)
  | [], [], i, _, hi => by simp at hi
  | [], _ :: _, _, h, _ => by cases h
  | true :: io, s :: sl, i, h, hi => by
    cases s <;> try (cases h; done)
    cases i with
    | zero => exact .inr ⟨rfl, _, rfl⟩
    | succ i => exact okIo_at (io := io) (sl := sl) (i := i) h (by simpa using hi)
  | false :: io, s :: sl, i, h, hi => by
    cases s <;> try (cases h; done)
    cases i with
    | zero => exact .inl ⟨_, rfl⟩
    | succ i => exact okIo_at (io := io) (sl := sl) (i := i) h (by simpa using hi)
  | true :: _, [], _, h, _ => by cases h
  | false :: _, [], _, h, _ => by cases h
theorem putSl_len : ∀ (sl : List Slot) (os : List (List D)), (putSl sl os).length = sl.length
  | [], os => by unfold putSl; rfl
  | .ow x :: sl, [] => by unfold putSl; exact congrArg (· + 1) (putSl_len sl [])
  | .ow x :: sl, o :: os => by unfold putSl; exact congrArg (· + 1) (putSl_len sl os)
  | .no :: sl, os => by unfold putSl; exact congrArg (· + 1) (putSl_len sl os)
  | .fz _ :: sl, os => by unfold putSl; exact congrArg (· + 1) (putSl_len sl os)
  | .om _ :: sl, os => by unfold putSl; exact congrArg (· + 1) (putSl_len sl os)
  | .od _ _ :: sl, os => by unfold putSl; exact congrArg (· + 1) (putSl_len sl os)
  | .slf _ :: sl, os => by unfold putSl; exact congrArg (· + 1) (putSl_len sl os)
theorem putSl_fz : ∀ (sl : List Slot) (os : List (List D)) (i : Nat) (d : D), getS sl i = .fz d → getS (putSl sl os) i = .fz d
  | [], os, i, d, h => by simp [getS] at h
  | s :: sl, os, 0, d, h => by
    cases s <;> first
      | (simp [getS] at h; done)
      | (unfold putSl; exact h)
  | s :: sl, os, i + 1, d, h => by
    have h' : getS sl i = .fz d := h
    cases s with
    | ow x =>
      cases os with
      | nil => unfold putSl; exact putSl_fz sl [] i d h'
      | cons o os => unfold putSl; exact putSl_fz sl os i d h'
    | no => unfold putSl; exact putSl_fz sl os i d h'
    | fz _ => unfold putSl; exact putSl_fz sl os i d h'
    | om _ => unfold putSl; exact putSl_fz sl os i d h'
    | od _ _ => unfold putSl; exact putSl_fz sl os i d h'
    | slf _ => unfold putSl; exact putSl_fz sl os i d h'
theorem lent_at : ∀ (sl : List Slot) (en : En) (os : List (List D)) (i : Nat) (xs : List D), lentBack sl en = some os → getS sl i = .ow xs → ∃ ys, getS en i = .ow ys ∧ getS (putSl sl os) i = .ow ys
  | [], en, os, i, xs, _, h => by simp [getS] at h
  | s :: sl, [], os, i, xs, h, _ => by cases s <;> cases h
  | s :: sl, e :: en, os, 0, xs, h, h2 => by
    have h2 : s = .ow xs := h2
    subst h2
    unfold lentBack at h
    split at h
    · rename_i ys r h3
      cases h
      exact ⟨ys, rfl, by unfold putSl; rfl⟩
    · cases h
  | s :: sl, e :: en, os, i + 1, xs, h, h2 => by
    have h2 : getS sl i = .ow xs := h2
    cases s with
    | ow x =>
      unfold lentBack at h
      split at h
      · rename_i ys r h3
        cases h
        obtain ⟨zs, h4, h5⟩ := lent_at sl en r i xs h3 h2
        exact ⟨zs, h4, by unfold putSl; exact h5⟩
      · cases h
    | no => obtain ⟨zs, h4, h5⟩ := lent_at sl en os i xs h h2; exact ⟨zs, h4, by unfold putSl; exact h5⟩
    | fz _ => obtain ⟨zs, h4, h5⟩ := lent_at sl en os i xs h h2; exact ⟨zs, h4, by unfold putSl; exact h5⟩
    | om _ => obtain ⟨zs, h4, h5⟩ := lent_at sl en os i xs h h2; exact ⟨zs, h4, by unfold putSl; exact h5⟩
    | od _ _ => obtain ⟨zs, h4, h5⟩ := lent_at sl en os i xs h h2; exact ⟨zs, h4, by unfold putSl; exact h5⟩
    | slf _ => obtain ⟨zs, h4, h5⟩ := lent_at sl en os i xs h h2; exact ⟨zs, h4, by unfold putSl; exact h5⟩
/-- the callers' view at a def's end -/
theorem exit_env {K : PySem.W.Frag} {H H' : Hp} {vs : List V} {m : Nat} {σ' : L2.St} {sl : List Slot} {en' : En} {ψ φ' : Fp} {io : List Bool} {os : List (List D)} {as : List Nat} (h : EnvOk K H (vs.map some) sl ψ) (h' : EnvOk K H' σ' en' φ') (fz : FzS H H')
    (keep : ∀ j, j ∉ as → σ'[j]? = (vs.map some ++ List.replicate m none)[j]?) (hio : okIo io sl = true) (has : ∀ i, io[i]? = some true → i ∉ as) (hl : lentBack sl en' = some os) : EnvOk K H' (vs.map some) (putSl sl os) ψ := by
  refine ⟨by rw [putSl_len]; exact h.len, fun i => ?_, h.dis, h'.tb⟩
  have q := h.slot i
  by_cases hi : i < sl.length
  · rcases okIo_at hio hi with ⟨d, e⟩ | ⟨e1, xs, e⟩
    · rw [putSl_fz sl os i d e]
      rw [e] at q
      obtain ⟨⟨v, q1, q2⟩, q3⟩ := q
      exact ⟨⟨v, q1, q2.mono fz⟩, q3⟩
    · obtain ⟨ys, k1, k2⟩ := lent_at sl en' os i xs hl e
      rw [k2]
      rw [e] at q
      obtain ⟨a, us, q1, q2, q3, q4⟩ := q
      have q' := h'.slot i
      rw [k1] at q'
      obtain ⟨b, ws, r1, r2, r3, r4⟩ := q'
      rw [keep i (has i e1), List.getElem?_append_left (by rw [h.len]; exact hi), q1] at r1
      cases r1
      exact ⟨a, ws, q1, r2, r3, q4⟩
  · rw [getS_out (by rw [putSl_len]; omega)]
    rw [getS_out (by omega)] at q
    exact q

theorem okArgs_len {o : Rk} {io : List Bool} {sl : List Slot} (h : okArgs o io sl = true) : sl.length = io.length := by
  unfold okArgs at h
  split at h
  · exact congrArg (· + 1) (okIo_len h)
  · cases h
  · exact okIo_len h
theorem okArgs_io {o : Rk} {io : List Bool} {sl : List Slot} (h : okArgs o io sl = true) (ho : o ≠ .ini) : okIo io sl = true := by
  cases o with
  | ini => exact absurd rfl ho
  | dat => exact h
  | ow => exact h
theorem okArgs_ini {io : List Bool} {sl : List Slot} (h : okArgs .ini io sl = true) : ∃ io' c sl', io = false :: io' ∧ sl = .slf c :: sl' ∧ okIo io' sl' = true := by
  unfold okArgs at h
  split at h
  · exact ⟨_, _, _, rfl, rfl, h⟩
  · cases h
  · rename_i h1 _ _
    exact absurd rfl (by assumption)
/-! the module -/
/-- a def of the text: its name, its full name, its class and name there, its statement, the names of its body (parameters first), how many are parameters; what it comes to -/
structure Df where
  nm : Str
  qual : Str
  md : Option (Nat × Str)
  st : Stmt
  N : List Str
  ps : List Str
  fn : Fn
abbrev Sig := List (Option (Nat × Str) × Str × Nat × Rk)
abbrev Cs := List (Str × Nat × List Str)
def okNm (x : Str) : Bool := !(x == ("__debug__" : Str)) && !(x == ("__classdict__" : Str))
abbrev As := List (Str × AK × List (List Nat × HR))
def zOf (nb gcs : List Str) (fs : Sig) (cs : Cs) (xs : List Str) (em : List (Str × List Nat)) (as : As) (lm : List Str) (d : Df) : Zc := ⟨d.N, nb, gcs, fs, cs, xs, em, as, lm.contains d.nm && d.md.isNone⟩
def ckD (nb gcs : List Str) (fs : Sig) (cs : Cs) (xs : List Str) (em : List (Str × List Nat)) (as : As) (lm : List Str) (d : Df) : Bool :=
  C8.scC d.N d.ps (defScope d.st) && decide (d.fn.io.length = d.ps.length) && decide (d.fn.slots = d.N.length) && d.N.all okNm && okNm d.nm &&
    (List.range d.fn.io.length).all (fun i => !(d.fn.io.getD i false) || !(asgdB d.fn.body).contains i) && (decide (d.fn.own ≠ .ini) || !(asgdB d.fn.body).contains 0) && (decide (d.md ≠ none) || decide (d.qual = d.nm)) && ckB (zOf nb gcs fs cs xs em as lm d) (defScope d.st) d.fn.body (defBody d.st)
def sig (ds : List Df) : Sig := ds.map fun d => (d.md, d.nm, d.ps.length, d.fn.own)
def ckAll (nb gcs : List Str) (fs : Sig) (cs : Cs) (xs : List Str) (em : List (Str × List Nat)) (as : As) (lm : List Str) (ds : List Df) : Bool := ds.all fun d => ckD nb gcs fs cs xs em as lm d
theorem okNm_ok {x : Str} (h : okNm x = true) : (x == ("__debug__" : Str)) = false ∧ (x == ("__classdict__" : Str)) = false := by
  unfold okNm at h
  simpa [Bool.and_eq_true, Bool.not_eq_true'] using h
/-- what is told of a class -/
def ClsOk (K : PySem.W.Frag) (mg : Str → Option Value) (c : Nat) (cn : Str) (ns : List Str) : Prop :=
  (cn == ("__debug__" : Str)) = false ∧ ns.Nodup ∧ ∃ C, Wx.cls c = some (C, ns) ∧ mg cn = some (.ref C) ∧ Cls K C ∧ C8.InsC K C ∧ ∀ f ∈ ns, NoAttr K C f
/-- where a def stands -/
def DefAt (K : PySem.W.Frag) (mg : Str → Option Value) (d : Df) : Prop := match d.md with
  | none => ∃ (f : Addr) (fd : FuncData), mg d.nm = some (.ref f) ∧ Fun K d.nm d.qual d.st f fd ∧ L2.Binds K fd d.ps []
  | some (c, m) => ∃ C ns, Wx.cls c = some (C, ns) ∧ ∃ (f : Addr) (fd : FuncData), (d.fn.own ≠ .ini → Meth K C m f) ∧ (d.fn.own = .ini → Mk K C f) ∧ Fun K d.nm d.qual d.st f fd ∧ L2.Binds K fd d.ps []
/-- what stands behind the module's top -/
structure Md (K : PySem.W.Frag) (mg : Str → Option Value) (G : List D) (nb gcs : List Str) (cs : Cs) (ds : List Df) : Prop where
  nb : ∀ x ∈ nb, mg x = none
  gc : ∀ (g : Nat) (x : Str), gcs[g]? = some x → (x == ("__debug__" : Str)) = false ∧ ∃ (u : Value) (v : V) (d : D), mg x = some u ∧ RelV v u ∧ G[g]? = some d ∧ ∀ H, Rep K H v d
  fs : ∀ d ∈ ds, DefAt K mg d
  cs : ∀ (c : Nat) (cn : Str) (fi : Nat) (ns : List Str), cs[c]? = some (cn, fi, ns) → ClsOk K mg c cn ns
theorem noX_ok {α : Type} {r : Res α} {a : α} (h : noX r = .ok a) : r = .ok a := by
  cases r <;> cases h
  rfl
theorem noX_exc {α : Type} {r : Res α} {c : Nat} {p : D} (h : noX r = .exc c p) : False := by cases r <;> cases h
theorem end_len {f : Fn} {sl : List Slot} {q : Flow × En} {r : D × List (List D)} (h : endFn f sl q = .ok r) : r.2.length = ows sl := by
  obtain ⟨fl, en'⟩ := q
  unfold endFn at h
  obtain ⟨os, h3, h4⟩ := Res.bind_ok h
  have h5 := lentBack_len (ofO_ok h3)
  clear h h3
  dsimp only at h4
  split at h4
  · cases h4; exact h5
  · cases h4; exact h5
  · split at h4
    · cases h4; exact h5
    · cases h4
  · split at h4
    · cases h4; exact h5
    · cases h4
  · cases h4
theorem end_exc {f : Fn} {sl : List Slot} {q : Flow × En} {c : Nat} {p : D} (h : endFn f sl q = .exc c p) : False := by
  obtain ⟨fl, en'⟩ := q
  unfold endFn at h
  cases hb : lentBack sl en' with
  | none =>
    dsimp only at h
    rw [hb] at h
    cases h
  | some os =>
    dsimp only at h
    rw [hb] at h
    replace h : (match fl, f.own with
      | .ret d, .dat => (Res.ok (d, os) : Res (D × List (List D)))
      | .nx, .dat => .ok (.non, os)
      | .nx, .ini => match getS en' 0 with
        | .fz (.obj c ds) => .ok (.obj c ds, os)
        | _ => .bad
      | .retO i, .ow => match getS en' i, f.io.getD i false with
        | .ow xs, false => .ok (.lst xs, os)
        | _, _ => .bad
      | _, _ => .bad) = .exc c p := h
    split at h
    · cases h
    · cases h
    · split at h <;> cases h
    · split at h <;> cases h
    · cases h
/-- how a def's run comes to what it comes to -/
theorem run_ok {P : Tb} {G : List D} {f : Fn} {sl : List Slot} {r : D × List (List D)} (h : runFn P G f sl = .ok r) : okArgs f.own f.io sl = true ∧ ∃ fl en', exB P G f.body (sl ++ List.replicate (f.slots - f.io.length) .no) = .ok (fl, en') ∧ (∀ c p, fl ≠ .thr c p) ∧ endFn f sl (fl, en') = .ok r := by
  unfold runFn at h
  split at h
  · rename_i hio
    obtain ⟨⟨fl, en'⟩, h1, h2⟩ := Res.bind_ok h
    refine ⟨hio, fl, en', noX_ok h1, ?_, ?_⟩
    · rintro c p rfl
      cases h2
    · cases fl <;> first | exact h2 | cases h2
  · cases h
theorem run_exc {P : Tb} {G : List D} {f : Fn} {sl : List Slot} {c : Nat} {p : D} (h : runFn P G f sl = .exc c p) : okArgs f.own f.io sl = true ∧ ∃ en', exB P G f.body (sl ++ List.replicate (f.slots - f.io.length) .no) = .ok (.thr c p, en') := by
  unfold runFn at h
  split at h
  · rename_i hio
    cases hr : noX (exB P G f.body (sl ++ List.replicate (f.slots - f.io.length) .no)) with
    | ok q =>
      rw [hr] at h
      obtain ⟨fl, en'⟩ := q
      refine ⟨hio, en', ?_⟩
      cases fl with
      | thr c' p' =>
        have h : Res.exc c' p' = (Res.exc c p : Res (D × List (List D))) := h
        cases h
        exact noX_ok hr
      | _ => exact (end_exc (show endFn f sl (_, en') = .exc c p from h)).elim
    | exc c' p' => exact (noX_exc hr).elim
    | bad => rw [hr] at h; cases h
  · cases h
theorem tab_spec {G : List D} {fns : List Fn} {k f : Nat} {sl : List Slot} {r : D × List (List D)} (h : tab G fns k f sl = .ok r) : ∃ fn, fns[f]? = some fn ∧ sl.length = fn.io.length ∧ r.2.length = ows sl := by
  cases k with
  | zero => cases h
  | succ k =>
    unfold tab at h
    split at h
    · rename_i fn hf
      obtain ⟨hio, fl, en', h1, h2, h3⟩ := run_ok h
      exact ⟨fn, hf, okArgs_len hio, end_len h3⟩
    · cases h
theorem tab_specE {G : List D} {fns : List Fn} {k f : Nat} {sl : List Slot} {c : Nat} {p : D} (h : tab G fns k f sl = .exc c p) : ∃ fn, fns[f]? = some fn ∧ sl.length = fn.io.length := by
  cases k with
  | zero => cases h
  | succ k =>
    unfold tab at h
    split at h
    · rename_i fn hf
      exact ⟨fn, hf, okArgs_len (run_exc h).1⟩
    · cases h
theorem XcOk.mono {P : Program} {w : World} {K : PySem.W.Frag} {mg : Str → Option Value} {base : Heap} {k j c : Nat} {cn : Str} (h : XcOk P w K mg base k c cn) (hk : k ≤ j) : XcOk P w K mg base j c cn := by
  obtain ⟨C, g, fI, B, fd, ps, nm, nm2, h1, h2, h3, h4, h5, h6, h7, h8, h9⟩ := h.ex
  exact ⟨h.db, C, g, fI, B, fd, ps, nm, nm2, h1, h2, h3, h4, h5, h6, h7, h8.mono hk, h9⟩
section
variable {P : Program} {w : World} {K : PySem.W.Frag} {mg : Str → Option Value} {base : Heap} {G : List D} {nb gcs : List Str} {cs : Cs} {ds : List Df}
/-- the def y makes lambdas -/
def LmOk (K : PySem.W.Frag) (mg : Str → Option Value) (base : Heap) (y : Str) : Prop := ∃ f c P, mg y = some (.ref f) ∧ (∀ oc od fd sl, K.lookup f = some ⟨oc, od, .func fd, sl⟩ → fd.code = .ref c) ∧ LamX.TabB base mg c P ∧
  (P, (envOfC y default 0 0 .none).qual ++ "<lambda>") ∈ Wx.tabs ∧ ∀ p ∈ Wx.tabs, p.1 = P → p.2 = (envOfC y default 0 0 .none).qual ++ "<lambda>"
theorem defs_ok (M : Md K mg G nb gcs cs ds) {xs : List Str} (hX : ∀ (c : Nat) (cn : Str), xs[c]? = some cn → XcOk P w K mg base 2 c cn) {em : List (Str × List Nat)} (hE : ∀ x l, (x, l) ∈ em → EmOk K mg x l) (hF : em = [] ∨ XfOk K) {as : As} (hA : ∀ x ak hs, (x, ak, hs) ∈ as → AskOk P w K mg base x ak hs) {lm : List Str} (hL : ∀ y ∈ lm, LmOk K mg base y) (hck : ckAll nb gcs (sig ds) cs xs em as lm ds = true) : ∀ (k i : Nat) (d : Df) (f : Addr) (fd : FuncData), ds[i]? = some d → Fun K d.nm d.qual d.st f fd → (d.md = none → mg d.nm = some (.ref f)) →
    FnOk P w K mg base (CX P w) (4 * k + 2) f fd d.ps (spF K (tab G (ds.map (·.fn)) k) i d.ps.length d.fn.own)
  | 0, i, d, f, fd, hd, F, hmf => by
    refine ⟨fun vs H Q E h => ?_, fun A outer s H args us vs Q E hr he hb hv h => ?_⟩
    · exact h.1
    · obtain ⟨_, sl, ψ, _, ⟨dd, os, hp, _⟩ | ⟨c, p, hp, _⟩⟩ := h <;> cases hp
  | k + 1, i, d, f, fd, hd, F, hmf => by
    have hm : d ∈ ds := List.mem_of_getElem? hd
    have c := List.all_eq_true.mp hck d hm
    unfold ckD at c
    simp only [Bool.and_eq_true, decide_eq_true_eq, List.all_eq_true] at c
    obtain ⟨⟨⟨⟨⟨⟨⟨⟨c1, c2⟩, c3⟩, c4⟩, c5⟩, c6⟩, c0⟩, c8⟩, c7⟩ := c
    have S : FnScope d.N d.ps (defScope d.st) := C8.fnScope_by c1
    show FnOk P w K mg base (CX P w) (4 * k + 2 + 1 + 1 + 1 + 1) f fd d.ps _
    obtain ⟨oc, od, kV, doc, pm, an, cdv, ct, osl, rfl, lk, hcd⟩ := F.ex
    refine fn_of lk hcd S (fun vs H Q E h => h.1) fun A outer s H vs Q E hr h => ?_
    obtain ⟨hl, sl, ψ, ok, hcase⟩ := h
    have at_ : ∀ (j : Nat) (d' : Df), ds[j]? = some d' → ∀ (sl : List Slot) (r : D × List (List D)), tab G (ds.map (·.fn)) k j sl = .ok r → sl.length = d'.ps.length ∧ r.2.length = ows sl := fun j d' e1 sl r hr => by
      have c' := List.all_eq_true.mp hck d' (List.mem_of_getElem? e1)
      unfold ckD at c'
      simp only [Bool.and_eq_true, decide_eq_true_eq] at c'
      obtain ⟨⟨⟨⟨⟨⟨⟨⟨a1, a2⟩, a3⟩, a4⟩, a5⟩, a6⟩, a0⟩, a8⟩, a7⟩ := c'
      obtain ⟨fn, t1, t2, t3⟩ := tab_spec hr
      rw [List.getElem?_map, e1] at t1
      cases t1
      exact ⟨by rw [t2, a2], t3⟩
    have atE : ∀ (j : Nat) (d' : Df), ds[j]? = some d' → ∀ (sl : List Slot) (c : Nat) (p : D), tab G (ds.map (·.fn)) k j sl = .exc c p → sl.length = d'.ps.length := fun j d' e1 sl c p hr => by
      have c' := List.all_eq_true.mp hck d' (List.mem_of_getElem? e1)
      unfold ckD at c'
      simp only [Bool.and_eq_true, decide_eq_true_eq] at c'
      obtain ⟨⟨⟨⟨⟨⟨⟨⟨a1, a2⟩, a3⟩, a4⟩, a5⟩, a6⟩, a0⟩, a8⟩, a7⟩ := c'
      obtain ⟨fn, t1, t2⟩ := tab_specE hr
      rw [List.getElem?_map, e1] at t1
      cases t1
      rw [t2, a2]
    have W : WdS (cxOf (CX P w) P w K mg base d.N d.qual (defScope d.st) f cdv A outer s H E) (zOf nb gcs (sig ds) cs xs em as lm d) (tab G (ds.map (·.fn)) k) G (4 * k + 2) (fun cls dx _ H' => E cls dx H') := by
      refine ⟨⟨rfl, S.nd, rfl, fun x hx => okNm_ok (c4 x hx), M.nb, M.gc, fun j x n o hj => ?_, fun j c m x n o hj => ?_, fun c cn fi ns hc => M.cs c cn fi ns hc, hA, fun hq => ?_, hr.mono (by omega)⟩, takes_of rfl rfl rfl rfl, fun c cn hc => (hX c cn hc).mono (by omega), fun _ => rfl, passes_of rfl, S.kind, rfl, rfl, hE, hF⟩
      · have hj' : (ds.map fun d => (d.md, d.nm, d.ps.length, d.fn.own))[j]? = some (none, x, n, o) := hj
        rw [List.getElem?_map, Option.map_eq_some_iff] at hj'
        obtain ⟨d', e1, e2⟩ := hj'
        have hm' : d' ∈ ds := List.mem_of_getElem? e1
        have g := M.fs d' hm'
        unfold DefAt at g
        have e3 : d'.md = none := congrArg (·.1) e2
        have e4 : d'.nm = x := congrArg (·.2.1) e2
        have e5 : d'.ps.length = n := congrArg (·.2.2.1) e2
        have e6 : d'.fn.own = o := congrArg (·.2.2.2) e2
        subst e4 e5 e6
        rw [e3] at g
        have c' := List.all_eq_true.mp hck d' hm'
        unfold ckD at c'
        simp only [Bool.and_eq_true, decide_eq_true_eq] at c'
        obtain ⟨f', fd', g1, g2, g3⟩ := g
        exact ⟨(okNm_ok c'.1.1.1.1.2).1, f', fd', d'.ps, g1, g2.kp, defs_ok M hX hE hF hA hL hck k j d' f' fd' e1 g2 (fun _ => g1), g3, at_ j d' e1, atE j d' e1⟩
      · have hj' : (ds.map fun d => (d.md, d.nm, d.ps.length, d.fn.own))[j]? = some (some (c, m), x, n, o) := hj
        rw [List.getElem?_map, Option.map_eq_some_iff] at hj'
        obtain ⟨d', e1, e2⟩ := hj'
        have hm' : d' ∈ ds := List.mem_of_getElem? e1
        have g := M.fs d' hm'
        unfold DefAt at g
        have e3 : d'.md = some (c, m) := congrArg (·.1) e2
        have e5 : d'.ps.length = n := congrArg (·.2.2.1) e2
        have e6 : d'.fn.own = o := congrArg (·.2.2.2) e2
        subst e5 e6
        rw [e3] at g
        obtain ⟨C, ns, g0, f', fd', g1, g2, g3, g4⟩ := g
        exact ⟨C, ns, g0, f', fd', d'.ps, g1, g2, defs_ok M hX hE hF hA hL hck k j d' f' fd' e1 g3 (fun z => by rw [e3] at z; cases z), g4, at_ j d' e1, atE j d' e1⟩
      · replace hq : (lm.contains d.nm && d.md.isNone) = true := hq
        rw [Bool.and_eq_true] at hq
        have hn : d.md = none := by simpa using hq.2
        obtain ⟨f2, c, Pt, u1, u2, u3, u4, u5⟩ := hL d.nm (by simpa using hq.1)
        rw [hmf hn] at u1
        cases u1
        have eq : d.qual = d.nm := by
          rw [Bool.or_eq_true, decide_eq_true_eq, decide_eq_true_eq] at c8
          rcases c8 with c8 | c8
          · exact absurd hn c8
          · exact c8
        have e0 : cdv = .ref c := u2 _ _ _ _ lk
        exact ⟨⟨c, Pt, e0, u3, by rw [← eq] at u4; exact u4, by rw [← eq] at u5; exact u5⟩, hr.mono (by omega)⟩
    refine ⟨_, okB d.fn.body _ _ (defBody d.st) W c7, ?_⟩
    rcases hcase with ⟨dd, os, hp, q⟩ | ⟨c, p, hp, q⟩
    rotate_left
    · unfold tab at hp
      rw [List.getElem?_map, hd] at hp
      obtain ⟨hio, en', h1⟩ := run_exc hp
      have lsl := okArgs_len hio
      have lvs : vs.length = sl.length := by have := ok.len; rwa [List.length_map] at this
      have es : d.N.length - vs.length = d.fn.slots - d.fn.io.length := by rw [c3, lvs, lsl]
      have ok2 : EnvOk K H (L2.start d.N vs) (sl ++ List.replicate (d.fn.slots - d.fn.io.length) .no) ψ := by
        unfold L2.start
        rw [es]
        exact env_ext ok _
      exact ⟨_, ψ, ok2, _, en', h1, fun σ' H' φ' ok' went keep cls dx x => q cls dx H' x went.ev⟩
    · unfold tab at hp
      rw [List.getElem?_map, hd] at hp
      obtain ⟨hio, fl, en', h1, nt, h2⟩ := run_ok hp
      unfold endFn at h2
      obtain ⟨os', h3, h4⟩ := Res.bind_ok h2
      have hb := ofO_ok h3
      have lsl := okArgs_len hio
      have lvs : vs.length = sl.length := by have := ok.len; rwa [List.length_map] at this
      have es : d.N.length - vs.length = d.fn.slots - d.fn.io.length := by rw [c3, lvs, lsl]
      have ok2 : EnvOk K H (L2.start d.N vs) (sl ++ List.replicate (d.fn.slots - d.fn.io.length) .no) ψ := by
        unfold L2.start
        rw [es]
        exact env_ext ok _
      refine ⟨_, ψ, ok2, fl, en', h1, fun σ' H' φ' ok' went keep => ?_⟩
      have hs : ∀ i, i < d.fn.io.length → d.fn.io[i]? = some true → i ∉ asgdB d.fn.body := fun i hlt hi => by
        have z := c6 i (List.mem_range.mpr hlt)
        rw [List.getD_eq_getElem?_getD, hi] at z
        simpa using z
      have ex : d.fn.own ≠ .ini → EnvOk K H' (vs.map some) (putSl sl os') ψ := fun ho => exit_env ok ok' went.ev.fz keep (okArgs_io hio ho) (fun i hi => hs i (List.getElem?_eq_some_iff.mp hi).1 hi) hb
      clear h1 h2 h3
      dsimp only at h4
      cases ho : d.fn.own with
      | dat =>
        rw [ho] at h4 q ex
        cases fl with
        | nx => cases h4; exact q _ _ .non ex went.ev
        | ret v => cases h4; exact fun u r => q _ _ r ex went.ev
        | brk => cases h4
        | cnt => cases h4
        | retO _ => cases h4
        | thr c p => exact absurd rfl (nt c p)
      | ini =>
        rw [ho] at h4 q hio c0
        cases fl with
        | ret _ => cases h4
        | brk => cases h4
        | cnt => cases h4
        | retO _ => cases h4
        | thr c p => exact absurd rfl (nt c p)
        | nx =>
          dsimp only at h4
          split at h4
          · rename_i cc ds' hx
            cases h4
            obtain ⟨io', c, sl', e1, rfl, e3⟩ := okArgs_ini hio
            have z0 := ok.slot 0
            obtain ⟨p, C, dx, ns, z1, z2, z3, z4⟩ := (show SlotOk K H _ (.slf c) (ψ 0) from z0)
            have z := ok'.slot 0
            rw [hx] at z
            obtain ⟨⟨v, y1, y2⟩, y3⟩ := z
            have h0 : (0 : Nat) ∉ asgdB d.fn.body := by simpa using c0
            rw [keep 0 h0] at y1
            unfold L2.start at y1
            rw [List.getElem?_append_left (by rw [List.length_map, lvs]; simp), z1] at y1
            cases y1
            rw [List.getElem?_map, Option.map_eq_some_iff] at z1
            obtain ⟨v0, w1, w2⟩ := z1
            cases w2
            exact q _ _ ⟨rfl, p, w1, y2⟩ (fun z => absurd rfl z) went.ev
          · cases h4
      | ow =>
        rw [ho] at h4 q ex
        have hio := okArgs_io hio (by rw [ho]; decide)
        cases fl with
        | nx => cases h4
        | ret _ => cases h4
        | brk => cases h4
        | cnt => cases h4
        | thr c p => exact absurd rfl (nt c p)
        | retO i =>
          dsimp only at h4
          split at h4
          · rename_i xs hx hnio
            cases h4
            intro u hu
            have z := ok'.slot i
            rw [hx] at z
            obtain ⟨a, us, z1, z2, z3, z4⟩ := z
            rw [hu] at z1
            cases z1
            refine q _ _ ⟨a, us, rfl, ?_, z2, z3⟩ ex went.ev
            rcases went.own a ⟨i, by rw [z4]; exact List.mem_singleton.mpr rfl⟩ with ⟨j, hj⟩ | e
            · exfalso
              have y := ok.slot j
              by_cases hjl : j < sl.length
              · rcases okIo_at hio hjl with ⟨dd, e⟩ | ⟨e1, ws, e⟩
                · rw [e] at y
                  rw [y.2] at hj; cases hj
                · rw [e] at y
                  obtain ⟨b, bs, y1, y2, y3, y4⟩ := y
                  rw [y4] at hj
                  obtain rfl := List.mem_singleton.mp hj
                  obtain ⟨ys, k1, k2⟩ := lent_at sl en' os j ws hb e
                  have x := ok'.slot j
                  rw [k1] at x
                  obtain ⟨b', bs', x1, x2, x3, x4⟩ := x
                  rw [keep j (hs j (by rw [← lsl]; exact hjl) e1)] at x1
                  unfold L2.start at x1
                  rw [List.getElem?_append_left (by rw [ok.len]; exact hjl), y1] at x1
                  cases x1
                  have := ok'.dis i j a (by rw [z4]; exact List.mem_singleton.mpr rfl) (by rw [x4]; exact List.mem_singleton.mpr rfl)
                  subst this
                  rw [List.getD_eq_getElem?_getD, e1] at hnio
                  cases hnio
              · rw [getS_out (by omega)] at y
                have y : ψ j = [] := y
                rw [y] at hj; cases hj
            · exact e
          · cases h4
end

/-- how the arguments of a def bind (each is given) -/
def BindOk (nm qual : Str) (st : Stmt) (ps : List Str) : Prop := ∀ (kV doc pm : Value) (an : Option Addr) (cdv ct : Value) (us : List Value), us.length = ps.length →
  bindArgs (PySem.W.fnOf nm qual (defArgs st) (defBody st) (defScope st) .none kV doc pm an cdv ct) ⟨us, []⟩ = pure (ps.zip us)
/-- a def behind the module's top -/
theorem def_at {K : PySem.W.Frag} {h : Heap} {mg : Str → Option Value} {nm : Str} {st : Stmt} {ps : List Str} {f : Addr} {od an : Option Addr} {osl : Array (Option Value)} {oc kV doc pm cdv ct : Value} (X : K.In h) (N : h.Ns mainGlobals mg) (b : BindOk nm nm st ps)
    (a : PySem.W.nsIn K mainGlobals nm = some (some (.ref f))) (l : K.lookup f = some ⟨oc, od, .func (PySem.W.fnOf nm nm (defArgs st) (defBody st) (defScope st) .none kV doc pm an cdv ct), osl⟩)
    (c : PySem.W.codeIn K cdv nm = true) (k : PySem.W.keepIn K (.ref f) = true) :
    ∃ (f : Addr) (fd : FuncData), mg nm = some (.ref f) ∧ Fun K nm nm st f fd ∧ L2.Binds K fd ps [] ∧ ∀ (s : Shared) (us : List Value), us.length = ps.length → BindsTo s fd ⟨us, []⟩ (ps.zip us) :=
  have F := fun_mk (st := st) l c k
  ⟨f, _, PySem.W.mg_of X N a, F, F.binds b, fun s us hl => .of_eq (b kV doc pm an cdv ct us hl)⟩
theorem all_nil {α : Type} {p : α → Prop} : ∀ x ∈ ([] : List α), p x := fun _ h => absurd h List.not_mem_nil
theorem all_cons {α : Type} {p : α → Prop} {a : α} {l : List α} (h : p a) (t : ∀ x ∈ l, p x) : ∀ x ∈ a :: l, p x := fun x hx => by
  rcases List.mem_cons.mp hx with rfl | hx
  · exact h
  · exact t x hx
theorem df_at {K : PySem.W.Frag} {mg : Str → Option Value} {nm : Str} {st : Stmt} {N ps : List Str} {fn : Fn} (h : ∃ (f : Addr) (fd : FuncData), mg nm = some (.ref f) ∧ Fun K nm nm st f fd ∧ L2.Binds K fd ps [] ∧ ∀ (s : Shared) (us : List Value), us.length = ps.length → BindsTo s fd ⟨us, []⟩ (ps.zip us)) :
    DefAt K mg ⟨nm, nm, none, st, N, ps, fn⟩ := by
  obtain ⟨f, fd, h1, h2, h3, _⟩ := h
  exact ⟨f, fd, h1, h2, h3⟩
/-- a method -/
theorem dm_at {K : PySem.W.Frag} {mg : Str → Option Value} {nm qual : Str} {st : Stmt} {N ps ns : List Str} {fn : Fn} {c : Nat} {C f : Addr} {od an : Option Addr} {osl : Array (Option Value)} {oc kV doc pm cdv ct : Value} (hc : Wx.cls c = some (C, ns)) (ho : fn.own ≠ .ini) (b : BindOk nm qual st ps)
    (a : PySem.W.findIn K (.ref C) nm = some (some (.ref f))) (i : PySem.W.isFn K (.ref f) = true) (l : K.lookup f = some ⟨oc, od, .func (PySem.W.fnOf nm qual (defArgs st) (defBody st) (defScope st) .none kV doc pm an cdv ct), osl⟩)
    (cd : PySem.W.codeIn K cdv qual = true) (k : PySem.W.keepIn K (.ref f) = true) : DefAt K mg ⟨nm, qual, some (c, nm), st, N, ps, fn⟩ :=
  have F := fun_mk (st := st) l cd k
  ⟨C, ns, hc, f, _, fun _ => ⟨a, i, k⟩, fun z => absurd z ho, F, F.binds b⟩
/-- .. that makes the objects -/
theorem di_at {K : PySem.W.Frag} {mg : Str → Option Value} {qual : Str} {st : Stmt} {N ps ns : List Str} {fn : Fn} {c : Nat} {C f : Addr} {od an : Option Addr} {osl : Array (Option Value)} {oc kV doc pm cdv ct : Value} (hc : Wx.cls c = some (C, ns)) (ho : fn.own = .ini) (b : BindOk "__init__" qual st ps)
    (a : PySem.W.findIn K (.ref C) "__init__" = some (some (.ref f))) (i : PySem.W.isFn K (.ref f) = true) (l : K.lookup f = some ⟨oc, od, .func (PySem.W.fnOf "__init__" qual (defArgs st) (defBody st) (defScope st) .none kV doc pm an cdv ct), osl⟩)
    (cd : PySem.W.codeIn K cdv qual = true) (k : PySem.W.keepIn K (.ref f) = true) (mk : PySem.W.makesIn K C = true) (kc : PySem.W.keepIn K (.ref C) = true) : DefAt K mg ⟨"__init__", qual, some (c, "__init__"), st, N, ps, fn⟩ :=
  have F := fun_mk (st := st) l cd k
  ⟨C, ns, hc, f, _, fun z => absurd ho z, fun _ => ⟨mk, a, i, kc⟩, F, F.binds b⟩
/-- a class -/
theorem cls_at {K : PySem.W.Frag} {h : Heap} {mg : Str → Option Value} {c : Nat} {C : Addr} {cn : Str} {ns : List Str} (X : K.In h) (N : h.Ns mainGlobals mg) (hc : Wx.cls c = some (C, ns)) (hd : (cn == ("__debug__" : Str)) = false) (hn : ns.Nodup) (a : PySem.W.nsIn K mainGlobals cn = some (some (.ref C)))
    (pg : PySem.W.plainGet K C Str.empty = true) (hdi : PySem.W.hasDictIn K C = true) (po : PySem.W.plainOver K C = true) (sa : PySem.W.findIn K (.ref C) "__setattr__" = some (some (.builtin "object.__setattr__")))
    (ha : PySem.W.findIn K (.ref C) "__class__" = some (some (.builtin "object.__class__"))) (hs : PySem.W.specialIn K (.builtin "object.__class__") "__get__" = some (some (.builtin "getset_descriptor.__get__"))) (ht : PySem.W.takesIn K (.builtin "object.__class__") = some true)
    (hm : PySem.W.mroIn K C (.type "object") = some true) (me : PySem.W.kitOne K (.ref C) (.ref C) = some true) (na : ∀ f ∈ ns, NoAttr K C f) : ClsOk K mg c cn ns :=
  have cl : Cls K C := ⟨pg, hdi, po, sa⟩
  ⟨hd, hn, C, hc, PySem.W.mg_of X N a, cl, ⟨cl, ha, hs, ht, hm, me⟩, na⟩
end Vi
namespace Vi
open PySem PySem.Spec PyProof.Rows
open L2
/-- a def that lets nothing out -/
theorem cx0 {P : Program} {w : World} {K : PySem.W.Frag} {mg : Str → Option Value} {base : Heap} {k : Nat} {f : Addr} {fd : FuncData} {ps : List Str} {sp : Sp} (F : FnOk P w K mg base (CX P w) k f fd ps sp) : FnOk P w K mg base CX0 k f fd ps (fun vs H Q _ => sp vs H Q E0) := by
  refine ⟨fun vs H Q E h => F.len vs H Q E0 h, fun A outer s H args us vs Q E hr he hb hv h => codeAny_mono (F.run A outer s H args us vs Q E0 hr he hb hv h) fun r s' hq => ?_⟩
  cases r with
  | ok fl => cases fl <;> exact hq
  | error e =>
    obtain ⟨_, _, _, _, _, _, _, _, _, _, _, _, z⟩ := (show CX P w outer H s E0 e s' from hq)
    exact z.elim
/-- a list that is there is frozen ahead of the call -/
theorem un_frz [Wx] {fs : List Addr} {P : Program} {w : World} {H : Hp} {h : Heap} {a : Addr} {ob : Obj} {u : HO} (e : H a = some u) (hu : isOl u) : Un fs [] H (frzAt H a ob u) h h := by
  have ne : ∀ b w, H b = w → w ≠ some u → frzAt H a ob u b = w := fun b w e1 e2 => (upd_ne (fun z => by rw [z, e] at e1; exact e2 e1.symm)).trans e1
  exact ⟨fun b o e _ _ _ => e, fun b o e _ _ _ => ⟨o.slots, e⟩, fun b o _ q _ => ne b _ q (fun z => nomatch z), fun b o e _ => ⟨o, e⟩, fun b ys q => ne b _ q (fun z => by cases z; exact hu),
      fun b o w q => ne b _ q (fun z => by cases z; exact hu), fun b ps q => ⟨#[], by rw [ne b _ q (fun z => by cases z; exact hu)]; simp⟩⟩
theorem fn_frz [Wx] {P : Program} {w : World} {K : PySem.W.Frag} {mg : Str → Option Value} {base : Heap} {k : Nat} {f : Addr} {fd : FuncData} {ps : List Str} {sp : Sp} (F : FnOk P w K mg base CX0 k f fd ps sp) :
    FnOk P w K mg base CX0 k f fd ps (fun vs H Q E => sp vs H Q E ∨ ∃ a u, H a = some u ∧ isOl u ∧ vs.length = ps.length ∧ ∀ o, sp vs (frzAt H a o u) Q E) := by
  refine ⟨fun vs H Q E h => ?_, fun A outer s H args us vs Q E hr he hb hv h => ?_⟩
  · rcases h with h | ⟨_, _, _, _, h, _⟩
    · exact F.len vs H Q E h
    · exact h
  · rcases h with h | ⟨a, u, e, hu, _, h⟩
    · exact F.run A outer s H args us vs Q E hr he hb hv h
    · obtain ⟨ob, eo⟩ := ow_obj hu (he.hok a _ e)
      have un : Un (frs outer) [] H (frzAt H a ob u) s.heap s.heap := un_frz (P := P) (w := w) e hu
      have ne : ∀ b, H b = none → frzAt H a ob u b = none := fun b e1 => (upd_ne (fun z => by rw [z, e] at e1; cases e1)).trans e1
      have ne2 : ∀ b w, H b = some w → w ≠ u → frzAt H a ob u b = some w := fun b w e1 e2 => (upd_ne (fun z => by rw [z, e] at e1; exact e2 (Option.some.inj e1).symm)).trans e1
      have hok : HOk P w (frzAt H a ob u) s.heap := fun b w q => by
        have stay : ∀ b w, H b = some w → ObjOk P _ (frzAt H a ob u) s.heap b w := fun b w q => (he.hok b w q).stay (fun _ _ _ r => r) (fun c r => ne2 c _ r (fun z => by rw [← z] at hu; exact hu)) fun c ys r => ne2 c _ r (fun z => by rw [← z] at hu; exact hu)
        by_cases hb : b = a
        · subst hb
          have q' : some (HO.frz ob u) = some w := upd_same.symm.trans q
          cases q'
          exact ⟨eo, stay b u e⟩
        · have q : H b = some w := (upd_ne hb).symm.trans q
          exact stay b w q
      refine codeAny_mono (F.run A outer s _ args us vs Q E hr ⟨he.frames, he.mod, fun b o q => ⟨(he.bs b o q).1, ne b (he.bs b o q).2⟩, he.bsz, he.funs, fun b q => ne b (he.frf b q), hok, he.bare⟩ hb hv (h ob)) fun r s' hq => ?_
      cases r with
      | error e => exact hq
      | ok fl =>
        cases fl with
        | ret v =>
          obtain ⟨v', H2, q1, q2, q3, q4, q5, q6⟩ := hq
          exact ⟨v', H2, q1, q2, un.trans q3, q4, q5, q6⟩
        | next => exact hq
        | brk => exact hq
        | cont => exact hq
/-- what the law's end wants, from what its table comes to; lm: the defs that make lambdas -/
theorem vi_end {l : PySem.W.OpenLaw} {n k L : Nat} {q : Program} {loose : List Str} {XP : (Str → Option Value) → Heap → Prop} {YP : World → Heap → Prop} {d : DefRec} {K : Params → PySem.W.Frag} {x : Str} {G : List D} {fns : List Fn} {lm : List Str}
    (hn : l.most = some n) (hn2 : n ≤ sizeLine) (hdf : d.params.defaults = []) (hr : Room (4 * k + 2) callerA) (hY : ∀ (w : World) (h : Heap), YP w h → (K w.params).In h) (hlm : ∀ y ∈ lm, ((recsOf q).find? fun e => e.name == y).isSome = true)
    (F : ∀ (w : World) (mg : Str → Option Value) (fa : Addr) (h : Heap), (K w.params).In h → h.Ns mainGlobals mg → mg d.name = some (.ref fa) →
      ∃ (W : Wx) (fd : FuncData), (∀ y ∈ lm, ∃ c P, PySem.W.tabIn (K w.params) y = some (c, P) ∧ (K w.params).lookup P = none) ∧ (∀ p ∈ W.tabs, ∃ y ∈ lm, ∃ c, PySem.W.tabIn (K w.params) y = some (c, p.1)) ∧
        (∀ (s : Shared) (u : Value), BindsTo s fd ⟨[u], []⟩ [(x, u)]) ∧ ∀ base : Heap, (∀ y ∈ lm, ∀ c P, PySem.W.tabIn (K w.params) y = some (c, P) → LamX.TabB base mg c P) → FnOk l.prog w (K w.params) mg base (CX l.prog w) (4 * k + 2) fa fd [x] (@spF W (K w.params) (tab G fns k) L 1 .dat))
    (hM : ∀ ns : List Int, ns.length ≤ n → tab G fns k L [.fz (.lst (ns.map .int))] = .ok (.bl true, [])) : PySem.W.WalkO q loose XP YP l.row.toRowW d [] fun f vs => PySem.call f vs := by
  refine Att.attach_callB hn hdf ?_
  intro w s0 s1 mg mb fa o pm cd doc a vs ns Gr Y ho hd hcd hmg hobj hints hlen hbits hg
  have KX := hY w _ Y
  obtain ⟨W, fd, hlt, htb, hb, hF⟩ := F w mg fa _ KX Gr.T.g hmg
  letI : Wx := W
  have mem : ∀ p : Addr × Addr, p ∈ lm.filterMap (PySem.W.tabIn (K w.params)) ↔ ∃ y ∈ lm, PySem.W.tabIn (K w.params) y = some p := fun p => List.mem_filterMap
  have tabs : ∀ p ∈ lm.filterMap (PySem.W.tabIn (K w.params)), PySem.W.CodeHd s1.heap p.1 p.2 ∧ s1.heap.get? p.2 = some { cls := .none, data := .fields #[] } := fun p hp => by
    obtain ⟨y, hy, e⟩ := (mem p).mp hp
    obtain ⟨dd, hdd⟩ := Option.isSome_iff_exists.mp (hlm y hy)
    exact PySem.W.tab_of (c := p.1) (P := p.2) Gr.T KX hdd e
  have sp0 : ∀ (H : Hp), (∀ p ∈ lm.filterMap (PySem.W.tabIn (K w.params)), H p.2 = some (.tbl #[])) → FzL (K w.params) H a (ns.map V.int) → @spF W (K w.params) (tab G fns k) L 1 .dat [.ref a] H (fun v _ => v = .bl true) E0 := fun H hH hz => by
    have hr : Reps (K w.params) H (ns.map V.int) (ns.map D.int) := by
      clear hz hM hlen hints hbits
      induction ns with
      | nil => exact .nil
      | cons n ns ih => exact .cons (.int n) ih
    refine ⟨rfl, [.fz (.lst (ns.map .int))], fun _ => [], ⟨rfl, fun i => ?_, fun _ _ _ h => (by cases h), fun p hp => ?_⟩, .inl ⟨.bl true, [], hM ns hlen, fun v H' r _ _ => by cases r; rfl⟩⟩
    · cases i with
      | zero => exact ⟨⟨_, rfl, .lst hz hr⟩, rfl⟩
      | succ i => exact (rfl : ([] : List Addr) = [])
    · obtain ⟨y, hy, c, e⟩ := htb p hp
      exact .nil (hH (c, p.1) ((mem _).mpr ⟨y, hy, e⟩))
  refine LamX.law_callTs (cs := lm.filterMap (PySem.W.tabIn (K w.params))) KX Gr.T.g Gr.T.b Gr.T.builtins Gr.T.nolimit hg (fun p hp => (tabs p hp).2) (fun p hp => ?_) (fun p hp => (tabs p hp).1) Gr.T.bmain hobj hints (Nat.le_trans hlen hn2) hr
    (fun base _ _ hTB => fn_frz (cx0 (hF base fun y hy c P e => hTB (c, P) ((mem _).mpr ⟨y, hy, e⟩)))) hb (fun H hH hS => ?_) (fun _ _ _ z => z)
  · obtain ⟨y, hy, e⟩ := (mem p).mp hp
    obtain ⟨c, P, e1, e2⟩ := hlt y hy
    rw [e] at e1
    cases e1
    exact e2
  · rcases hS with (e | e) | ⟨o', its, m, e, e1, e2, e3, e4, e5⟩
    · refine .inr ⟨a, _, e, trivial, rfl, fun o => sp0 _ (fun p hp => ?_) (.inl ⟨o, upd_same⟩)⟩
      have q := hH p hp
      exact (upd_ne fun z => by rw [z, e] at q; cases q).trans q
    · exact .inl (sp0 H hH (.inl e))
    · refine .inl (sp0 H hH ?_)
      have z := KX a o' e
      rw [hobj] at z
      cases z
      cases e3
      exact .inr ⟨vs, _, e, by simpa using e4, by simpa using e5⟩
end Vi

/-! Vi, part L2a: a def that asks, behind the module's top; a def that makes lambdas. -/
namespace Vi
open PySem PySem.Spec PyProof.Rows
open L2
/-- the text of a def that asks: its parameter, the name of what is caught -/
def askB (em : List (Str × List Nat)) (a n : Str) (ak : AK) (hs : List (List Nat × HR)) (st : Stmt) : Bool :=
  C8.scC [a, n] [a] (defScope st) && okNm a && okNm n && lcl (defScope st) n && lcl (defScope st) a && tryA (defScope st) em a n ak hs (defBody st)
theorem ask_at {W : Wx} {P : Program} {w : World} {K : PySem.W.Frag} {h : Heap} {mg : Str → Option Value} {x a n : Str} {ak : AK} {hs : List (List Nat × HR)} {em : List (Str × List Nat)} {st : Stmt} {g : Addr} {od an : Option Addr} {osl : Array (Option Value)} {oc kV doc pm cdv ct : Value} (X : K.In h) (N : h.Ns mainGlobals mg)
    (b : BindOk x x st [a]) (hd : (x == ("__debug__" : Str)) = false) (a0 : PySem.W.nsIn K mainGlobals x = some (some (.ref g))) (l : K.lookup g = some ⟨oc, od, .func (PySem.W.fnOf x x (defArgs st) (defBody st) (defScope st) .none kV doc pm an cdv ct), osl⟩)
    (c : PySem.W.codeIn K cdv x = true) (k : PySem.W.keepIn K (.ref g) = true) (hem : ∀ x l, (x, l) ∈ em → EmOk K mg x l) (hx : XfOk K) (hck : askB em a n ak hs st = true) (base : Heap) : AskOk P w K mg base x ak hs := by
  unfold askB at hck
  simp only [Bool.and_eq_true] at hck
  obtain ⟨⟨⟨⟨⟨c1, c2⟩, c3⟩, c4⟩, c5⟩, c6⟩ := hck
  have S : FnScope [a, n] [a] (defScope st) := C8.fnScope_by c1
  have F := fun_mk (st := st) l c k
  refine ⟨hd, g, oc, od, _, _, _, _, kV, doc, pm, cdv, ct, an, osl, [a, n], a, PySem.W.mg_of X N a0, k, l, c, F.binds b, S, rfl, .inl (lcl_ok c5), (okNm_ok c2).1, (okNm_ok c2).2, ?_⟩
  rintro X' q rfl rfl rfl rfl rfl
  exact ask_gives (i := 1) S.nd (fun f => rfl) rfl (lcl_ok c4) (okNm_ok c3).1 (okNm_ok c3).2 hem hx c6 (fun f => by show 1 < 2; decide)
theorem tab_mk {K : PySem.W.Frag} {y : Str} {f c Pt : Addr} {oc e1 : Value} {od e2 : Option Addr} {fd : FuncData} {osl e4 : Array (Option Value)} {vs : Array Value} (a : PySem.W.nsIn K mainGlobals y = some (some (.ref f))) (l : K.lookup f = some ⟨oc, od, .func fd, osl⟩) (q : fd.code = .ref c)
    (lc : K.lookup c = some ⟨e1, e2, .fields vs, e4⟩) (v : vs[11]? = some (.ref Pt)) : PySem.W.tabIn K y = some (c, Pt) := by
  unfold PySem.W.tabIn
  rw [a]
  dsimp only
  rw [l]
  dsimp only
  rw [q]
  dsimp only
  rw [lc]
  dsimp only
  rw [v]
theorem lm_at {W : Wx} {K : PySem.W.Frag} {h : Heap} {mg : Str → Option Value} {y : Str} {c Pt : Addr} {base : Heap} (X : K.In h) (N : h.Ns mainGlobals mg) (t : PySem.W.tabIn K y = some (c, Pt)) (TB : LamX.TabB base mg c Pt) (m : (Pt, (envOfC y default 0 0 .none).qual ++ "<lambda>") ∈ W.tabs)
    (u : ∀ p ∈ W.tabs, p.1 = Pt → p.2 = (envOfC y default 0 0 .none).qual ++ "<lambda>") : LmOk K mg base y := by
  unfold PySem.W.tabIn at t
  split at t
  · rename_i f hf
    split at t
    · rename_i fd hfo
      split at t
      · rename_i c2 hc
        split at t
        · split at t
          · cases t
            refine ⟨f, c, Pt, PySem.W.mg_of X N hf, fun oc od fd' sl e => ?_, TB, m, u⟩
            rw [hfo] at e
            cases e
            exact hc
          · cases t
        · cases t
      · cases t
    · cases t
  · cases t
end Vi

/-! Vi, part 22: what changes no name: the value alone. -/
namespace Vi
open PySem

theorem Res.bind_assoc {α β γ : Type} (r : Res α) (f : α → Res β) (g : β → Res γ) : ((r >>= f) >>= g) = (r >>= fun a => f a >>= g) := by cases r <;> rfl
theorem Res.bind_pure' {α : Type} (r : Res α) : (r >>= fun a => .ok a) = r := by cases r <;> rfl
theorem Res.bind_congr {α β : Type} {r : Res α} {f g : α → Res β} (h : ∀ a, r = .ok a → f a = g a) : (r >>= f) = (r >>= g) := by
  cases r with
  | ok a => exact h a rfl
  | exc c p => rfl
  | bad => rfl
def pIn (own : List Nat) : Pat → Bool
  | .v i => own.contains i
  | .t is => is.all fun i => own.contains i
mutual
def pureE : Ex → Bool
  | .tup es => pureA es
  | .lst es => pureA es
  | .bin _ a b => pureE a && pureE b
  | .neg a => pureE a
  | .not a => pureE a
  | .cmp _ a b => pureE a && pureE b
  | .chain _ _ a b c => pureE a && pureE b && pureE c
  | .and a b => pureE a && pureE b
  | .or a b => pureE a && pureE b
  | .ite c a b => pureE c && pureE a && pureE b
  | .call _ es => noB es && pureA es
  | .blt _ es => pureA es
  | .isi a _ => pureE a
  | .sub a i => pureE a && pureE i
  | .slice a lo hi => pureE a && pureE lo && pureE hi
  | .dsub a i => pureE a && pureE i
  | .mdef _ a d => pureE a && pureE d
  | .kmax a _ _ b => pureE a && pureE b
  | .sset a => pureE a
  | .trev a => pureE a
  | .lk _ a => pureE a
  | .fld _ _ a => pureE a
  | .isc _ a => pureE a
  | .make _ _ es => pureA es
  | .meth _ _ es => pureA es
  | .om2 _ a b => pureE a && pureE b
  | .pop _ _ => false
  | .prim _ es => pureA es
  | .asked _ _ _ _ _ es => pureA es
  | .lcm own pt _ src cnd elt => pIn own pt && pureA src && pureA cnd && pureE elt
  | .lc own pt _ src cnd elt => pIn own pt && pureA src && pureA cnd && pureE elt
  | .lc2 own pt _ src cnd vs pt1 _ src1 cnd1 elt => pIn own pt && pureA src && pureA cnd && pureE elt && pIn vs pt1 && vs.all (fun i => own.contains i) && pureA src1 && pureA cnd1
  | .var _ => true
  | .bvar _ => true
  | .int _ => true
  | .str _ => true
  | .non => true
  | .bl _ => true
  | .gc _ => true
  | .nop => true
  | .bad => true
  | .dnew => true
def pureA : Exs → Bool
  | .nil => true
  | .cons e es => pureE e && pureA es
end
/-- items that are told, of those that a turn tells -/
def lcP {α β : Type} (f : α → Res (Option β)) : List α → Res (List β)
  | [] => .ok []
  | a :: as => do
    let o ← f a
    let r ← lcP f as
    match o with
    | some y => return y :: r
    | none => return r
/-- .. each turn tells some -/
def lcC {α β : Type} (f : α → Res (List β)) : List α → Res (List β)
  | [] => .ok []
  | a :: as => do
    let r ← f a
    let q ← lcC f as
    return r ++ q
/-- an item of an item of a list of lists of one's own -/
def om2D (s : Slot) (a b : D) : Res D := match s, a, b with
  | .om rows, .int k, .int l => do
    let row ← ofO (L2.atI rows k)
    ofO (L2.atI row l)
  | _, _, _ => .bad
/-- a list that is not too long -/
def capD (l : List D) : Res D := if l.length ≤ line then .ok (.lst l) else .bad
mutual
def pv (P : Tb) (G : List D) : Ex → En → Res D
  | .var i, en => match getS en i with
    | .fz d => .ok d
    | _ => .bad
  | .bvar i, en => match getS en i with
    | .ow xs => .ok (.lst xs)
    | .od ks vs => .ok (.dic ks vs)
    | _ => .bad
  | .dnew, en => .ok (.dic [] [])
  | .fld c k a, en => do
    let d ← pv P G a en
    fldD c k d
  | .isc c a, en => do
    let d ← pv P G a en
    let b ← iscD c d
    return .bl b
  | .make c f es, en => do
    let ds ← pvs P G es en
    let q ← P f (.slf c :: ds.map .fz)
    return q.1
  | .meth c f es, en => do
    let ds ← pvs P G es en
    if isObj c ds = true then do
      let q ← P f (ds.map .fz)
      return q.1
    else .bad
  | .om2 i a b, en => do
    let d ← pv P G a en
    let e ← pv P G b en
    om2D (getS en i) d e
  | .pop _ _, _ => .bad
  | .asked _ ak hs c f es, en => do
    let ds ← pvs P G es (maskE en)
    askR ak hs (P f (ofC c ++ ds.map .fz))
  | .prim p es, en => do
    let ds ← pvs P G es en
    primD p ds
  | .lk i a, en => match getS en i with
    | .od ks vs => do
      let d ← pv P G a ((maskE en).set i (.fz (.dic ks vs)))
      match d with
      | .lst xs => do
        let _ ← intsD xs
        return .lst xs
      | _ => .bad
    | _ => .bad
  | .trev a, en => do
    let d ← pv P G a en
    match d with
    | .lst xs => return .tup xs.reverse
    | _ => .bad
  | .sset a, en => do
    let d ← pv P G a en
    match d with
    | .lst xs => do
      let ns ← intsD xs
      if ns.length < 60 then return .lst ((risI ns).map .int) else .bad
    | _ => .bad
  | .dsub a i, en => do
    let d ← pv P G a en
    let k ← pv P G i en
    match d with
    | .dic ks vs => if keyOk k = true then ofO (dget ks vs k) else .bad
    | _ => .bad
  | .int i, en => .ok (.int i)
  | .str x, en => .ok (.str x)
  | .non, en => .ok .non
  | .bl b, en => .ok (.bl b)
  | .nop, en => .ok .non
  | .bad, _ => .bad
  | .gc g, en => match G[g]? with
    | some d => .ok d
    | none => .bad
  | .tup es, en => do
    let ds ← pvs P G es en
    return .tup ds
  | .lst es, en => do
    let ds ← pvs P G es en
    return .lst ds
  | .bin op a b, en => do
    let d ← pv P G a en
    let e ← pv P G b en
    binD op d e
  | .neg a, en => do
    let d ← pv P G a en
    let i ← asInt d
    return .int (-i)
  | .not a, en => do
    let d ← pv P G a en
    let b ← asBl d
    return .bl (!b)
  | .cmp op a b, en => do
    let d ← pv P G a en
    let e ← pv P G b en
    let c ← cmpD op d e
    return .bl c
  | .chain op op' a b c, en => do
    let d ← pv P G a en
    let e ← pv P G b en
    let t ← cmpD op d e
    if t = true then do
      let g ← pv P G c en
      let u ← cmpD op' e g
      return .bl u
    else return .bl false
  | .and a b, en => do
    let d ← pv P G a en
    let t ← asBl d
    if t = true then pv P G b en else return .bl false
  | .or a b, en => do
    let d ← pv P G a en
    let t ← asBl d
    if t = true then return .bl true else pv P G b en
  | .ite c a b, en => do
    let d ← pv P G c en
    let t ← asBl d
    if t = true then pv P G a en else pv P G b en
  | .call f es, en => do
    let ds ← pvs P G es en
    let q ← P f (ds.map .fz)
    return q.1
  | .blt f es, en => do
    let ds ← pvs P G es en
    bfn f ds
  | .isi a ty, en => do
    let d ← pv P G a en
    let b ← isiD ty d
    return .bl b
  | .sub a i, en => do
    let d ← pv P G a en
    let e ← pv P G i en
    subD d e
  | .kmax a js _ b, en => do
    let d ← pv P G a en
    match d with
    | .lst ds => match capsD en js with
      | some cs => do
        let ks ← mapRes (fun d => pv P G b (.fz d :: cs.map .fz)) ds
        match maxKey ds ks with
        | some m => .ok m
        | none => .bad
      | none => .bad
    | _ => .bad
  | .mdef mx a i, en => do
    let d ← pv P G a en
    let e ← pv P G i en
    mdefD mx d e
  | .slice a lo hi, en => do
    let d ← pv P G a en
    let e ← pv P G lo en
    let g ← pv P G hi en
    let x ← optI (isNop lo) e
    let y ← optI (isNop hi) g
    sliceD d x y
  | .lcm own pt sk src cnd elt, en => do
    let ds ← pvs P G src en
    let its ← srcI sk ds
    let ys ← lcP (fun d => do
      let en1 ← bindP pt d (wipeE own en)
      let cs ← pvs P G cnd en1
      let t ← allT cs
      if t = true then do
        let y ← pv P G elt en1
        return some y
      else return none) its
    return .lst ys
  | .lc own pt sk src cnd elt, en => do
    let ds ← pvs P G src en
    let its ← srcI sk ds
    let ys ← lcP (fun d => do
      let en1 ← bindP pt d (wipeE own en)
      let cs ← pvs P G cnd en1
      let t ← allT cs
      if t = true then do
        let y ← pv P G elt en1
        return some y
      else return none) its
    return .lst ys
  | .lc2 own pt sk src cnd vs pt1 sk1 src1 cnd1 elt, en => do
    let ds ← pvs P G src en
    let its ← srcI sk ds
    let ys ← lcC (fun d => do
      let en1 ← bindP pt d (wipeE own en)
      let cs ← pvs P G cnd en1
      let t ← allT cs
      if t = true then do
        let ds1 ← pvs P G src1 en1
        let its1 ← srcI sk1 ds1
        lcP (fun d => do
          let en2 ← bindP pt1 d (wipeE vs en1)
          let cs1 ← pvs P G cnd1 en2
          let t1 ← allT cs1
          if t1 = true then do
            let y ← pv P G elt en2
            return some y
          else return none) its1
      else return []) its
    capD ys
def pvs (P : Tb) (G : List D) : Exs → En → Res (List D)
  | .nil, en => .ok []
  | .cons e es, en => do
    let d ← pv P G e en
    let ds ← pvs P G es en
    return d :: ds
end
theorem lent_none : ∀ {es : Exs}, noB es = true → lentAt es = List.replicate (exsLen es) none
  | .nil, _ => rfl
  | .cons e es, h => by
    unfold noB at h
    rw [Bool.and_eq_true] at h
    have ih := lent_none h.2
    cases e <;> first
      | (simp [isB] at h; done)
      | (show none :: lentAt es = _; rw [ih]; rfl)
theorem args_none (en : En) : ∀ (n : Nat) (ds : List D), ds.length = n → argsOf en (List.replicate n none) ds = some (ds.map .fz)
  | 0, [], _ => rfl
  | n + 1, d :: ds, h => by
    show (argsOf en (List.replicate n none) ds).map _ = _
    rw [args_none en n ds (by simpa using h)]; rfl
  | 0, _ :: _, h => by simp at h
  | _ + 1, [], h => by simp at h
theorem back_none (os : List (List D)) (en : En) : ∀ n : Nat, putBack (List.replicate n none) os en = en
  | 0 => by unfold putBack; cases os <;> rfl
  | n + 1 => by
    show putBack (none :: List.replicate n none) os en = en
    unfold putBack; exact back_none os en n
theorem pvs_len {P : Tb} {G : List D} : ∀ {es : Exs} {en : En} {ds : List D}, pvs P G es en = .ok ds → ds.length = exsLen es
  | .nil, _, _, h => by unfold pvs at h; cases h; rfl
  | .cons e es, _, _, h => by
    unfold pvs at h
    obtain ⟨d, h1, h2⟩ := Res.bind_ok h
    obtain ⟨ds, h3, h4⟩ := Res.bind_ok h2
    cases h4
    show ds.length + 1 = exsLen es + 1
    rw [pvs_len h3]
theorem env_ext' {a b : En} (hl : a.length = b.length) (h : ∀ i, getS a i = getS b i) : a = b := by
  refine List.ext_getElem hl fun i h1 h2 => ?_
  have := h i
  unfold getS at this
  rwa [List.getD_eq_getElem?_getD, List.getD_eq_getElem?_getD, List.getElem?_eq_getElem h1, List.getElem?_eq_getElem h2] at this
theorem fold_len : ∀ (l : List (Nat × D)) (en : En), (l.foldl (fun en p => en.set p.1 (.fz p.2)) en).length = en.length
  | [], _ => rfl
  | p :: l, en => by rw [List.foldl_cons, fold_len l]; exact List.length_set
theorem fold_get : ∀ (l : List (Nat × D)) (en : En) (j : Nat), (∀ p ∈ l, p.1 ≠ j) → getS (l.foldl (fun en p => en.set p.1 (.fz p.2)) en) j = getS en j
  | [], _, _, _ => rfl
  | p :: l, en, j, h => by
    rw [List.foldl_cons, fold_get l _ j fun q hq => h q (List.mem_cons_of_mem _ hq), getS_set, if_neg (fun z => h p List.mem_cons_self z.1)]
theorem bind_len {pt : Pat} {d : D} {en en1 : En} (h : bindP pt d en = .ok en1) : en1.length = en.length := by
  unfold bindP at h
  split at h
  · cases h; exact List.length_set
  · split at h
    · cases h; exact fold_len _ _
    · cases h
  · cases h
theorem bind_get {own : List Nat} {pt : Pat} {d : D} {en en1 : En} (hp : pIn own pt = true) (h : bindP pt d en = .ok en1) {j : Nat} (hj : j ∉ own) : getS en1 j = getS en j := by
  unfold bindP at h
  split at h
  · cases h
    rw [getS_set, if_neg]
    rintro ⟨rfl, _⟩
    exact hj (by simpa [pIn] using hp)
  · split at h
    · cases h
      refine fold_get _ _ _ fun p hp' e => hj ?_
      have : p.1 ∈ _ := (List.of_mem_zip (a := p.1) (b := p.2) hp').1
      have hp := List.all_eq_true.mp (show _ = true from hp) p.1 this
      rw [← e]; simpa using hp
    · cases h
  · cases h
theorem wipe_bind2 {own : List Nat} {pt : Pat} {d : D} {en en1 : En} (hp : pIn own pt = true) (h : bindP pt d (wipeE own en) = .ok en1) : wipeE own en1 = wipeE own en := by
  refine env_ext' ?_ fun i => ?_
  · rw [wipeE_len, wipeE_len, bind_len h, wipeE_len]
  · rw [wipeE_get, wipeE_get]
    by_cases hi : i ∈ own
    · rw [if_pos hi, if_pos hi]
    · rw [if_neg hi, if_neg hi, bind_get hp h hi, wipeE_get, if_neg hi]
theorem back_wipe2 (own : List Nat) (en : En) : backE en own (wipeE own en) = en := by
  refine env_ext' ?_ fun i => ?_
  · rw [backE_len, wipeE_len]
  · rw [backE_get _ _ (wipeE_len _ _), wipeE_get]
    by_cases hi : i ∈ own <;> simp [hi]
theorem lc_go {step : D → En → Res (Option D × En)} {f : D → Res (Option D)} {en : En} (h : ∀ d, step d en = (f d >>= fun o => .ok (o, en))) : ∀ l, lcGo step l en = (lcP f l >>= fun r => .ok (r, en))
  | [] => rfl
  | d :: l => by
    unfold lcGo lcP
    rw [h d]
    cases hd : f d with
    | ok o =>
      simp only [Res.ok_bind]
      rw [lc_go h l]
      cases hl : lcP f l with
      | ok r => cases o <;> rfl
      | exc c p => rfl
      | bad => rfl
    | exc c p => rfl
    | bad => rfl
theorem lc_go2 {step : D → En → Res (List D × En)} {f : D → Res (List D)} {en : En} (h : ∀ d, step d en = (f d >>= fun o => .ok (o, en))) : ∀ l, lcGo2 step l en = (lcC f l >>= fun r => .ok (r, en))
  | [] => rfl
  | d :: l => by
    unfold lcGo2 lcC
    rw [h d]
    cases hd : f d with
    | ok o =>
      simp only [Res.ok_bind]
      rw [lc_go2 h l]
      cases hl : lcC f l with
      | ok r => rfl
      | exc c p => rfl
      | bad => rfl
    | exc c p => rfl
    | bad => rfl
theorem wipe_wipe2 {own vs : List Nat} {en : En} (h : vs.all (fun i => own.contains i) = true) : wipeE own (wipeE vs en) = wipeE own en := by
  refine env_ext' (by rw [wipeE_len, wipeE_len, wipeE_len]) fun i => ?_
  rw [wipeE_get (wipeE vs en) i own, wipeE_get en i own]
  by_cases hi : i ∈ own
  · rw [if_pos hi, if_pos hi]
  · rw [if_neg hi, if_neg hi, wipeE_get en i vs, if_neg]
    intro hv
    have := List.all_eq_true.mp h i hv
    exact hi (by simpa using this)
variable {P : Tb} {G : List D}
mutual
theorem ev_pv : ∀ (x : Ex) (en : En), pureE x = true → ev P G x en = (pv P G x en >>= fun d => .ok (d, en))
  | .var i, en, _ => by unfold ev pv; cases getS en i <;> rfl
  | .bvar i, en, _ => by unfold ev pv; cases getS en i <;> rfl
  | .int i, en, _ => by unfold ev pv; rfl
  | .str i, en, _ => by unfold ev pv; rfl
  | .non, en, _ => by unfold ev pv; rfl
  | .bl i, en, _ => by unfold ev pv; rfl
  | .nop, en, _ => by unfold ev pv; rfl
  | .bad, en, _ => by unfold ev pv; rfl
  | .dnew, en, _ => by unfold ev pv; rfl
  | .gc g, en, _ => by unfold ev pv; cases G[g]? <;> rfl
  | .tup es, en, h => by
    unfold pureE at h
    unfold ev pv
    simp only [evs_pvs es en h, Res.bind_assoc, Res.ok_bind, Res.pure_eq]
  | .lst es, en, h => by
    unfold pureE at h
    unfold ev pv
    simp only [evs_pvs es en h, Res.bind_assoc, Res.ok_bind, Res.pure_eq]
  | .bin op a b, en, h => by
    unfold pureE at h
    rw [Bool.and_eq_true] at h
    unfold ev pv
    simp only [ev_pv a en h.1, ev_pv b en h.2, Res.bind_assoc, Res.ok_bind, Res.pure_eq]
  | .cmp op a b, en, h => by
    unfold pureE at h
    rw [Bool.and_eq_true] at h
    unfold ev pv
    simp only [ev_pv a en h.1, ev_pv b en h.2, Res.bind_assoc, Res.ok_bind, Res.pure_eq]
  | .kmax a js nms b, en, h => by
    unfold pureE at h
    rw [Bool.and_eq_true] at h
    unfold ev pv
    simp only [ev_pv a en h.1, Res.bind_assoc, Res.ok_bind, Res.pure_eq]
    refine Res.bind_congr fun d hd => ?_
    cases d <;> try rfl
    rename_i ds
    dsimp only
    cases capsD en js with
    | none => rfl
    | some cs =>
      dsimp only
      have e : (fun d => (ev P G b (.fz d :: cs.map .fz) >>= fun q => Res.ok q.1)) = fun d => pv P G b (.fz d :: cs.map .fz) := by
        funext d
        rw [ev_pv b _ h.2, Res.bind_assoc]
        simp only [Res.ok_bind]
        exact Res.bind_pure' _
      rw [e, Res.bind_assoc]
      refine Res.bind_congr fun ks _ => ?_
      cases maxKey ds ks <;> rfl
  | .mdef mx a b, en, h => by
    unfold pureE at h
    rw [Bool.and_eq_true] at h
    unfold ev pv
    simp only [ev_pv a en h.1, ev_pv b en h.2, Res.bind_assoc, Res.ok_bind, Res.pure_eq]
  | .sub a b, en, h => by
    unfold pureE at h
    rw [Bool.and_eq_true] at h
    unfold ev pv
    simp only [ev_pv a en h.1, ev_pv b en h.2, Res.bind_assoc, Res.ok_bind, Res.pure_eq]
  | .neg a, en, h => by
    unfold pureE at h
    unfold ev pv
    simp only [ev_pv a en h, Res.bind_assoc, Res.ok_bind, Res.pure_eq]
  | .not a, en, h => by
    unfold pureE at h
    unfold ev pv
    simp only [ev_pv a en h, Res.bind_assoc, Res.ok_bind, Res.pure_eq]
  | .isi a ty, en, h => by
    unfold pureE at h
    unfold ev pv
    simp only [ev_pv a en h, Res.bind_assoc, Res.ok_bind, Res.pure_eq]
  | .fld c k a, en, h => by
    unfold pureE at h
    unfold ev pv
    simp only [ev_pv a en h, Res.bind_assoc, Res.ok_bind, Res.pure_eq]
  | .isc c a, en, h => by
    unfold pureE at h
    unfold ev pv
    simp only [ev_pv a en h, Res.bind_assoc, Res.ok_bind, Res.pure_eq]
  | .make c f es, en, h => by
    unfold pureE at h
    unfold ev pv
    simp only [evs_pvs es en h, Res.bind_assoc, Res.ok_bind, Res.pure_eq]
  | .meth c f es, en, h => by
    unfold pureE at h
    unfold ev pv
    simp only [evs_pvs es en h, Res.bind_assoc, Res.ok_bind, Res.pure_eq]
    refine Res.bind_congr fun d _ => ?_
    split
    · simp only [Res.bind_assoc, Res.ok_bind]
    · rfl
  | .om2 i a b, en, h => by
    unfold pureE at h
    rw [Bool.and_eq_true] at h
    unfold ev pv
    simp only [ev_pv a en h.1, ev_pv b en h.2, Res.bind_assoc, Res.ok_bind, Res.pure_eq]
    refine Res.bind_congr fun d _ => Res.bind_congr fun e _ => ?_
    unfold om2D
    cases getS en i <;> cases d <;> try rfl
    cases e <;> try rfl
    simp only [Res.bind_assoc]
  | .pop _ _, en, h => by simp [pureE] at h
  | .prim p es, en, h => by
    unfold pureE at h
    unfold ev pv
    simp only [evs_pvs es en h, Res.bind_assoc, Res.ok_bind, Res.pure_eq]
  | .asked _ ak hs c f es, en, h => by
    unfold pureE at h
    unfold ev pv
    simp only [evs_pvs es _ h, Res.bind_assoc, Res.ok_bind, Res.pure_eq]
  | .lk i a, en, h => by
    unfold pureE at h
    unfold ev pv
    cases getS en i <;> try rfl
    rename_i ks vs
    simp only [ev_pv a _ h, Res.bind_assoc, Res.ok_bind, Res.pure_eq]
    refine Res.bind_congr fun d _ => ?_
    cases d <;> try rfl
    simp only [Res.bind_assoc]
    refine Res.bind_congr fun ns _ => ?_
    rfl
  | .trev a, en, h => by
    unfold pureE at h
    unfold ev pv
    simp only [ev_pv a en h, Res.bind_assoc, Res.ok_bind, Res.pure_eq]
    refine Res.bind_congr fun d _ => ?_
    cases d <;> rfl
  | .sset a, en, h => by
    unfold pureE at h
    unfold ev pv
    simp only [ev_pv a en h, Res.bind_assoc, Res.ok_bind, Res.pure_eq]
    refine Res.bind_congr fun d _ => ?_
    cases d <;> try rfl
    simp only [Res.bind_assoc]
    refine Res.bind_congr fun ns _ => ?_
    split <;> rfl
  | .dsub a b, en, h => by
    unfold pureE at h
    rw [Bool.and_eq_true] at h
    unfold ev pv
    simp only [ev_pv a en h.1, ev_pv b en h.2, Res.bind_assoc, Res.ok_bind, Res.pure_eq]
    refine Res.bind_congr fun d _ => Res.bind_congr fun e _ => ?_
    cases d <;> try rfl
    simp only
    split <;> rfl
  | .chain op op' a b c, en, h => by
    unfold pureE at h
    rw [Bool.and_eq_true, Bool.and_eq_true] at h
    unfold ev pv
    simp only [ev_pv a en h.1.1, ev_pv b en h.1.2, ev_pv c en h.2, Res.bind_assoc, Res.ok_bind, Res.pure_eq]
    refine Res.bind_congr fun d _ => Res.bind_congr fun e _ => Res.bind_congr fun t _ => ?_
    cases t
    · rfl
    · simp only [if_pos, Res.bind_assoc, Res.ok_bind]
  | .and a b, en, h => by
    unfold pureE at h
    rw [Bool.and_eq_true] at h
    unfold ev pv
    simp only [ev_pv a en h.1, ev_pv b en h.2, Res.bind_assoc, Res.ok_bind, Res.pure_eq]
    refine Res.bind_congr fun d _ => Res.bind_congr fun t _ => ?_
    cases t <;> rfl
  | .or a b, en, h => by
    unfold pureE at h
    rw [Bool.and_eq_true] at h
    unfold ev pv
    simp only [ev_pv a en h.1, ev_pv b en h.2, Res.bind_assoc, Res.ok_bind, Res.pure_eq]
    refine Res.bind_congr fun d _ => Res.bind_congr fun t _ => ?_
    cases t <;> rfl
  | .ite c a b, en, h => by
    unfold pureE at h
    rw [Bool.and_eq_true, Bool.and_eq_true] at h
    unfold ev pv
    simp only [ev_pv a en h.1.2, ev_pv b en h.2, ev_pv c en h.1.1, Res.bind_assoc, Res.ok_bind, Res.pure_eq]
    refine Res.bind_congr fun d _ => Res.bind_congr fun t _ => ?_
    cases t <;> rfl
  | .slice a lo hi, en, h => by
    unfold pureE at h
    rw [Bool.and_eq_true, Bool.and_eq_true] at h
    unfold ev pv
    simp only [ev_pv a en h.1.1, ev_pv lo en h.1.2, ev_pv hi en h.2, Res.bind_assoc, Res.ok_bind, Res.pure_eq]
  | .call f es, en, h => by
    unfold pureE at h
    rw [Bool.and_eq_true] at h
    unfold ev pv
    rw [lent_none h.1]
    simp only [evs_pvs es en h.2, Res.bind_assoc, Res.ok_bind, Res.pure_eq]
    refine Res.bind_congr fun ds hd => ?_
    rw [args_none en _ ds (pvs_len hd)]
    show (P f (ds.map .fz) >>= _) = _
    refine Res.bind_congr fun q _ => ?_
    rw [back_none]
  | .blt f es, en, h => by
    unfold pureE at h
    unfold ev pv
    simp only [evs_pvs es en h, Res.bind_assoc, Res.ok_bind, Res.pure_eq]
  | .lcm own pt sk src cnd elt, en, h => by
    unfold pureE at h
    rw [Bool.and_eq_true, Bool.and_eq_true, Bool.and_eq_true] at h
    obtain ⟨⟨⟨h1, h2⟩, h3⟩, h4⟩ := h
    unfold ev pv
    simp only [evs_pvs src en h2, Res.bind_assoc, Res.ok_bind, Res.pure_eq]
    refine Res.bind_congr fun ds _ => Res.bind_congr fun its _ => ?_
    rw [lc_go (f := fun d => do
      let en1 ← bindP pt d (wipeE own en)
      let cs ← pvs P G cnd en1
      let t ← allT cs
      if t = true then do
        let y ← pv P G elt en1
        return some y
      else return none)]
    · simp only [Res.bind_assoc, Res.ok_bind, Res.pure_eq]
      refine Res.bind_congr fun ys _ => ?_
      rw [back_wipe2]
    · intro d
      simp only [Res.bind_assoc, Res.ok_bind, Res.pure_eq]
      refine Res.bind_congr fun en1 he => ?_
      rw [evs_pvs cnd en1 h3]
      simp only [Res.bind_assoc, Res.ok_bind, Res.pure_eq]
      refine Res.bind_congr fun cs _ => Res.bind_congr fun t _ => ?_
      cases t
      · simp only [Bool.false_eq_true, if_false, Res.ok_bind]
        rw [wipe_bind2 h1 he]
      · simp only [if_pos, ev_pv elt en1 h4, Res.bind_assoc, Res.ok_bind]
        refine Res.bind_congr fun y _ => ?_
        rw [wipe_bind2 h1 he]
  | .lc own pt sk src cnd elt, en, h => by
    unfold pureE at h
    rw [Bool.and_eq_true, Bool.and_eq_true, Bool.and_eq_true] at h
    obtain ⟨⟨⟨h1, h2⟩, h3⟩, h4⟩ := h
    unfold ev pv
    simp only [evs_pvs src en h2, Res.bind_assoc, Res.ok_bind, Res.pure_eq]
    refine Res.bind_congr fun ds _ => Res.bind_congr fun its _ => ?_
    rw [lc_go (f := fun d => do
      let en1 ← bindP pt d (wipeE own en)
      let cs ← pvs P G cnd en1
      let t ← allT cs
      if t = true then do
        let y ← pv P G elt en1
        return some y
      else return none)]
    · simp only [Res.bind_assoc, Res.ok_bind, Res.pure_eq]
      refine Res.bind_congr fun ys _ => ?_
      rw [back_wipe2]
    · intro d
      simp only [Res.bind_assoc, Res.ok_bind, Res.pure_eq]
      refine Res.bind_congr fun en1 he => ?_
      rw [evs_pvs cnd en1 h3]
      simp only [Res.bind_assoc, Res.ok_bind, Res.pure_eq]
      refine Res.bind_congr fun cs _ => Res.bind_congr fun t _ => ?_
      cases t
      · simp only [Bool.false_eq_true, if_false, Res.ok_bind]
        rw [wipe_bind2 h1 he]
      · simp only [if_pos, ev_pv elt en1 h4, Res.bind_assoc, Res.ok_bind]
        refine Res.bind_congr fun y _ => ?_
        rw [wipe_bind2 h1 he]
  | .lc2 own pt sk src cnd vs pt1 sk1 src1 cnd1 elt, en, h => by
    unfold pureE at h
    simp only [Bool.and_eq_true] at h
    obtain ⟨⟨⟨⟨⟨⟨⟨h1, h2⟩, h3⟩, h4⟩, h5⟩, h6⟩, h7⟩, h8⟩ := h
    unfold ev pv
    simp only [evs_pvs src en h2, Res.bind_assoc, Res.ok_bind, Res.pure_eq]
    refine Res.bind_congr fun ds _ => Res.bind_congr fun its _ => ?_
    rw [lc_go2 (f := fun d => do
      let en1 ← bindP pt d (wipeE own en)
      let cs ← pvs P G cnd en1
      let t ← allT cs
      if t = true then do
        let ds1 ← pvs P G src1 en1
        let its1 ← srcI sk1 ds1
        lcP (fun d => do
          let en2 ← bindP pt1 d (wipeE vs en1)
          let cs1 ← pvs P G cnd1 en2
          let t1 ← allT cs1
          if t1 = true then do
            let y ← pv P G elt en2
            return some y
          else return none) its1
      else return [])]
    · simp only [Res.bind_assoc, Res.ok_bind, Res.pure_eq]
      refine Res.bind_congr fun ys _ => ?_
      unfold capD
      by_cases hl : ys.length ≤ line
      · rw [if_pos hl, if_pos hl, back_wipe2]; rfl
      · rw [if_neg hl, if_neg hl]; rfl
    · intro d
      simp only [Res.bind_assoc, Res.ok_bind, Res.pure_eq]
      refine Res.bind_congr fun en1 he => ?_
      rw [evs_pvs cnd en1 h3]
      simp only [Res.bind_assoc, Res.ok_bind, Res.pure_eq]
      refine Res.bind_congr fun cs _ => Res.bind_congr fun t _ => ?_
      cases t
      · simp only [Bool.false_eq_true, if_false, Res.ok_bind]
        rw [wipe_bind2 h1 he]
      · simp only [if_pos, evs_pvs src1 en1 h7, Res.bind_assoc, Res.ok_bind]
        refine Res.bind_congr fun ds1 _ => Res.bind_congr fun its1 _ => ?_
        rw [lc_go (en := wipeE vs en1) (f := fun d => do
          let en2 ← bindP pt1 d (wipeE vs en1)
          let cs1 ← pvs P G cnd1 en2
          let t1 ← allT cs1
          if t1 = true then do
            let y ← pv P G elt en2
            return some y
          else return none)]
        · simp only [Res.bind_assoc, Res.ok_bind, Res.pure_eq]
          refine Res.bind_congr fun ys _ => ?_
          rw [wipe_wipe2 h6, wipe_bind2 h1 he]
        · intro d1
          simp only [Res.bind_assoc, Res.ok_bind, Res.pure_eq]
          refine Res.bind_congr fun en2 he2 => ?_
          rw [evs_pvs cnd1 en2 h8]
          simp only [Res.bind_assoc, Res.ok_bind, Res.pure_eq]
          refine Res.bind_congr fun cs1 _ => Res.bind_congr fun t1 _ => ?_
          cases t1
          · simp only [Bool.false_eq_true, if_false, Res.ok_bind]
            rw [wipe_bind2 h5 he2]
          · simp only [if_pos, ev_pv elt en2 h4, Res.bind_assoc, Res.ok_bind]
            refine Res.bind_congr fun y _ => ?_
            rw [wipe_bind2 h5 he2]
theorem evs_pvs : ∀ (xs : Exs) (en : En), pureA xs = true → evs P G xs en = (pvs P G xs en >>= fun ds => .ok (ds, en))
  | .nil, en, _ => by unfold evs pvs; rfl
  | .cons e es, en, h => by
    unfold pureA at h
    rw [Bool.and_eq_true] at h
    unfold evs pvs
    simp only [ev_pv e en h.1, evs_pvs es en h.2, Res.bind_assoc, Res.ok_bind, Res.pure_eq]
end
end Vi

/-! Vi, part 23: what a run comes to, step by step. -/
namespace Vi
open PySem

def wp {α : Type} (r : Res α) (Q : α → Prop) : Prop := ∃ a, r = .ok a ∧ Q a
theorem wp_ok {α : Type} {a : α} {Q : α → Prop} (h : Q a) : wp (.ok a) Q := ⟨a, rfl, h⟩
theorem wp_bind {α β : Type} {r : Res α} {f : α → Res β} {Q : β → Prop} (h : wp r fun a => wp (f a) Q) : wp (r >>= f) Q := by
  obtain ⟨a, rfl, b, hb, q⟩ := h
  exact ⟨b, hb, q⟩
theorem wp_eq {α : Type} {r : Res α} {a : α} (h : wp r fun x => x = a) : r = .ok a := by
  obtain ⟨_, h, rfl⟩ := h
  exact h
theorem wp_of {α : Type} {r : Res α} {a : α} {Q : α → Prop} (h : r = .ok a) (q : Q a) : wp r Q := ⟨a, h, q⟩
theorem wp_mono {α : Type} {r : Res α} {Q R : α → Prop} (h : wp r Q) (m : ∀ a, Q a → R a) : wp r R := by
  obtain ⟨a, h, q⟩ := h
  exact ⟨a, h, m a q⟩
/-- behind a block's statement -/
def aft (f : En → Res (Flow × En)) (Q : Flow × En → Prop) : Flow × En → Prop := fun r => match r.1 with
  | .nx => wp (f r.2) Q
  | x => Q (x, r.2)
variable {P : Tb} {G : List D} {Q : Flow × En → Prop} {en : En} {b : Blk} {e : Ex}
theorem wpE {R : D × En → Prop} {d : D} (hp : pureE e = true) (h : pv P G e en = .ok d) (q : R (d, en)) : wp (ev P G e en) R := by
  rw [ev_pv e en hp, h]
  exact wp_ok q
theorem wpA {xs : Exs} {R : List D × En → Prop} {ds : List D} (hp : pureA xs = true) (h : pvs P G xs en = .ok ds) (q : R (ds, en)) : wp (evs P G xs en) R := by
  rw [evs_pvs xs en hp, h]
  exact wp_ok q
theorem xNil (h : Q (.nx, en)) : wp (exB P G .nil en) Q := by unfold exB; exact wp_ok h
theorem xCons {s : Sx} (h : wp (ex P G s en) (aft (exB P G b) Q)) : wp (exB P G (.cons s b) en) Q := by
  unfold exB
  refine wp_bind (wp_mono h fun r hr => ?_)
  obtain ⟨f, en'⟩ := r
  cases f <;> first | exact hr | exact wp_ok hr
theorem xAsg {i : Nat} (h : wp (ev P G e en) fun r => wp (exB P G b (r.2.set i (.fz r.1))) Q) : wp (exB P G (.cons (.asg i e) b) en) Q := by
  refine xCons ?_
  unfold ex
  exact wp_bind (wp_mono h fun r hr => wp_ok hr)
theorem xAsgO {i : Nat} (h : wp (ev P G e en) fun r => ∃ xs, r.1 = .lst xs ∧ wp (exB P G b (r.2.set i (.ow xs))) Q) : wp (exB P G (.cons (.asgO i e) b) en) Q := by
  refine xCons ?_
  unfold ex
  refine wp_bind (wp_mono h fun r hr => ?_)
  obtain ⟨d, en'⟩ := r
  obtain ⟨xs, e, q⟩ := hr
  cases e
  exact wp_ok q
theorem xAsgD {i : Nat} (h : wp (ev P G e en) fun r => ∃ ks vs, r.1 = .dic ks vs ∧ wp (exB P G b (r.2.set i (.od ks vs))) Q) : wp (exB P G (.cons (.asgO i e) b) en) Q := by
  refine xCons ?_
  unfold ex
  refine wp_bind (wp_mono h fun r hr => ?_)
  obtain ⟨d, en'⟩ := r
  obtain ⟨ks, vs, e, q⟩ := hr
  cases e
  exact wp_ok q
theorem xAsgT {is : List Nat} (h : wp (ev P G e en) fun r => wp (bindP (.t is) r.1 r.2) fun en' => wp (exB P G b en') Q) : wp (exB P G (.cons (.asgT is e) b) en) Q := by
  refine xCons ?_
  unfold ex
  exact wp_bind (wp_mono h fun r hr => wp_bind (wp_mono hr fun en' q => wp_ok q))
theorem xPar {is : List (Nat × Bool)} {es : Exs} (h : wp (evs P G es en) fun r => wp (parGo is r.1 r.2) fun en' => wp (exB P G b en') Q) : wp (exB P G (.cons (.par is es) b) en) Q := by
  refine xCons ?_
  unfold ex
  exact wp_bind (wp_mono h fun r hr => wp_bind (wp_mono hr fun en' q => wp_ok q))
theorem xParS {is : List Nat} {ixs jxs es : Exs} (h : wp (evs P G es en) fun r => wp (parSGo P G is ixs jxs r.1 r.2) fun en' => wp (exB P G b en') Q) : wp (exB P G (.cons (.parS is ixs jxs es) b) en) Q := by
  refine xCons ?_
  unfold ex
  exact wp_bind (wp_mono h fun r hr => wp_bind (wp_mono hr fun en' q => wp_ok q))
theorem xpNil {R : En → Prop} (h : R en) : wp (parSGo P G [] .nil .nil [] en) R := by unfold parSGo; exact wp_ok h
theorem xpName {i : Nat} {is : List Nat} {jx : Ex} {ixs jxs : Exs} {d : D} {ds : List D} {R : En → Prop} (h : wp (parSGo P G is ixs jxs ds (en.set i (.fz d))) R) : wp (parSGo P G (i :: is) (.cons .nop ixs) (.cons jx jxs) (d :: ds) en) R := by
  unfold parSGo
  rw [if_pos (show isNop .nop = true from rfl)]
  exact h
theorem xpItem {i : Nat} {is : List Nat} {ix : Ex} {ixs jxs : Exs} {d : D} {ds xs ys : List D} {k : Int} {R : En → Prop} (hn : isNop ix = false) (p2 : pureE ix = true) (h2 : pv P G ix en = .ok (.int k)) (h3 : getS en i = .ow xs) (h4 : putIx xs k d = some ys)
    (h : wp (parSGo P G is ixs jxs ds (en.set i (.ow ys))) R) : wp (parSGo P G (i :: is) (.cons ix ixs) (.cons .nop jxs) (d :: ds) en) R := by
  unfold parSGo
  rw [if_neg (by rw [hn]; decide), if_pos (show isNop .nop = true from rfl)]
  rw [show ev P G (.bvar i) en = .ok (.lst xs, en) by unfold ev; rw [h3]]
  simp only [Res.ok_bind]
  rw [ev_pv ix en p2, h2]
  simp only [Res.ok_bind, h3, h4, ofO]
  exact h
theorem xpItem2 {i : Nat} {is : List Nat} {ix jx : Ex} {ixs jxs : Exs} {d : D} {ds : List D} {rows rows' : List (List D)} {k l : Int} {R : En → Prop} (hn : isNop ix = false) (hn2 : isNop jx = false) (p1 : pureE ix = true) (p2 : pureE jx = true) (h1 : pv P G ix en = .ok (.int k)) (h2 : pv P G jx en = .ok (.int l)) (h3 : getS en i = .om rows) (h4 : putII rows k l d = some rows')
    (h : wp (parSGo P G is ixs jxs ds (en.set i (.om rows'))) R) : wp (parSGo P G (i :: is) (.cons ix ixs) (.cons jx jxs) (d :: ds) en) R := by
  unfold parSGo
  rw [if_neg (by rw [hn]; decide), if_neg (by rw [hn2]; decide), ev_pv ix en p1, h1]
  simp only [Res.ok_bind]
  rw [ev_pv jx en p2, h2]
  simp only [Res.ok_bind, h3, h4, ofO]
  exact h
theorem xAsgM {i : Nat} {rows : List (List D)} (p1 : pureE e = true) (h1 : pv P G e en = .ok (.lst (rows.map D.lst))) (q : wp (exB P G b (en.set i (.om rows))) Q) : wp (exB P G (.cons (.asgM i e) b) en) Q := by
  refine xCons ⟨(.nx, en.set i (.om rows)), ?_, q⟩
  have hr : rowsD (rows.map D.lst) = .ok rows := by
    clear h1 q
    induction rows with
    | nil => rfl
    | cons r rows ih =>
      show (rowsD (rows.map D.lst) >>= fun q => .ok (r :: q)) = _
      rw [ih]; rfl
  unfold ex
  rw [ev_pv e en p1, h1]
  simp only [Res.ok_bind, hr, Res.pure_eq]
theorem xSetII {i : Nat} {ix jx : Ex} {d : D} {k l : Int} {rows rows' : List (List D)} (p1 : pureE e = true) (p2 : pureE ix = true) (p3 : pureE jx = true) (h1 : pv P G e en = .ok d) (h2 : pv P G ix en = .ok (.int k)) (h3 : pv P G jx en = .ok (.int l)) (h4 : getS en i = .om rows) (h5 : putII rows k l d = some rows')
    (q : wp (exB P G b (en.set i (.om rows'))) Q) : wp (exB P G (.cons (.setII i ix jx e) b) en) Q := by
  refine xCons ⟨(.nx, en.set i (.om rows')), ?_, q⟩
  unfold ex
  rw [ev_pv e en p1, h1]
  simp only [Res.ok_bind]
  rw [ev_pv ix en p2, h2]
  simp only [Res.ok_bind]
  rw [ev_pv jx en p3, h3]
  simp only [Res.ok_bind, h4, h5, ofO, Res.pure_eq]
theorem xAugII {i : Nat} {ix jx : Ex} {op : BOp} {d : D} {a c k l : Int} {row : List D} {rows rows' : List (List D)} (p1 : pureE e = true) (p2 : pureE ix = true) (p3 : pureE jx = true) (h2 : pv P G ix en = .ok (.int k)) (h3 : pv P G jx en = .ok (.int l)) (h4 : getS en i = .om rows) (h6 : L2.atI rows k = some row) (h7 : L2.atI row l = some (.int a)) (h1 : pv P G e en = .ok (.int c)) (h8 : binI op a c = .ok d) (h5 : putII rows k l d = some rows')
    (q : wp (exB P G b (en.set i (.om rows'))) Q) : wp (exB P G (.cons (.augII i ix jx op e) b) en) Q := by
  refine xCons ⟨(.nx, en.set i (.om rows')), ?_, q⟩
  unfold ex
  rw [ev_pv ix en p2, h2]
  simp only [Res.ok_bind]
  rw [ev_pv jx en p3, h3]
  simp only [Res.ok_bind, h4, h6, h7, ofO, asInt]
  rw [ev_pv e en p1, h1]
  simp only [Res.ok_bind, h4, h5, h8, asInt, ofO, Res.pure_eq]
theorem xIni {c : Nat} {is : List Nat} {ds : List D} (h0 : getS en 0 = .slf c) (h1 : fzAt en is = some ds) (q : wp (exB P G b (en.set 0 (.fz (.obj c ds)))) Q) : wp (exB P G (.cons (.ini c is) b) en) Q := by
  refine xCons ⟨(.nx, en.set 0 (.fz (.obj c ds))), ?_, q⟩
  unfold ex
  rw [h0, h1]
  simp only
  rw [if_pos trivial]
theorem xSet {i : Nat} {ix : Ex} {d : D} {k : Int} {xs ys : List D} (p1 : pureE e = true) (p2 : pureE ix = true) (h1 : pv P G e en = .ok d) (h2 : pv P G ix en = .ok (.int k)) (h3 : getS en i = .ow xs) (h4 : putIx xs k d = some ys)
    (q : wp (exB P G b (en.set i (.ow ys))) Q) : wp (exB P G (.cons (.setI i ix e) b) en) Q := by
  refine xCons ⟨(.nx, en.set i (.ow ys)), ?_, q⟩
  unfold ex
  rw [ev_pv e en p1, h1]
  simp only [Res.ok_bind]
  rw [show ev P G (.bvar i) en = .ok (.lst xs, en) by unfold ev; rw [h3]]
  simp only [Res.ok_bind]
  rw [ev_pv ix en p2, h2]
  simp only [Res.ok_bind, h3, h4, ofO, Res.pure_eq]
theorem xSetD {i : Nat} {ix : Ex} {d k : D} {ks vs : List D} (p1 : pureE e = true) (p2 : pureE ix = true) (h1 : pv P G e en = .ok d) (h2 : pv P G ix en = .ok k) (h3 : getS en i = .od ks vs) (h4 : keyOk k = true) (h5 : ks.length < line)
    (q : wp (exB P G b (en.set i (.od (dput ks vs k d).1 (dput ks vs k d).2))) Q) : wp (exB P G (.cons (.dsetI i ix e) b) en) Q := by
  refine xCons ⟨(.nx, en.set i (.od (dput ks vs k d).1 (dput ks vs k d).2)), ?_, q⟩
  unfold ex
  rw [ev_pv e en p1, h1]
  simp only [Res.ok_bind]
  rw [show ev P G (.bvar i) en = .ok (.dic ks vs, en) by unfold ev; rw [h3]]
  simp only [Res.ok_bind]
  rw [ev_pv ix en p2, h2]
  simp only [Res.ok_bind, h3, Res.pure_eq]
  rw [if_pos ⟨h4, h5⟩]
theorem xApp {i : Nat} {xs : List D} (h1 : getS en i = .ow xs) (h : wp (ev P G e en) fun r => ∃ ys, getS r.2 i = .ow ys ∧ ys.length < line ∧ wp (exB P G b (r.2.set i (.ow (ys ++ [r.1])))) Q) : wp (exB P G (.cons (.app i e) b) en) Q := by
  refine xCons ?_
  unfold ex
  rw [h1]
  refine wp_bind (wp_mono h fun r hr => ?_)
  obtain ⟨ys, e1, e2, q⟩ := hr
  rw [e1]
  simp only
  rw [if_pos e2]
  exact wp_ok q
theorem xExt {i : Nat} {xs ys : List D} (p1 : pureE e = true) (h1 : getS en i = .ow xs) (h2 : pv P G e en = .ok (.lst ys)) (h3 : xs.length + ys.length ≤ line) (q : wp (exB P G b (en.set i (.ow (xs ++ ys)))) Q) : wp (exB P G (.cons (.ext i e) b) en) Q := by
  refine xCons ⟨(.nx, en.set i (.ow (xs ++ ys))), ?_, q⟩
  unfold ex
  rw [h1, ev_pv e en p1, h2]
  simp only [Res.ok_bind, h1, Res.pure_eq]
  rw [if_pos h3]
theorem xRem {i : Nat} {ns : List Int} {k : Int} (p1 : pureE e = true) (h1 : getS en i = .ow (ns.map .int)) (h2 : pv P G e en = .ok (.int k)) (h3 : k ∈ ns) (q : wp (exB P G b (en.set i (.ow ((ns.erase k).map .int)))) Q) : wp (exB P G (.cons (.rem i e) b) en) Q := by
  have hi : intsD (ns.map .int) = .ok ns := by
    clear h1 h3 q
    induction ns with
    | nil => rfl
    | cons n ns ih => show (asInt (.int n) >>= fun x => intsD (ns.map .int) >>= fun r => .ok (x :: r)) = _; rw [ih]; rfl
  refine xCons ⟨(.nx, en.set i (.ow ((ns.erase k).map .int))), ?_, q⟩
  unfold ex
  rw [h1, ev_pv e en p1, h2]
  simp only [Res.ok_bind, h1, Res.pure_eq, asInt, hi]
  rw [if_pos h3]
theorem xIns {i : Nat} {ix : Ex} {xs : List D} {k : Int} {d : D} (p1 : pureE ix = true) (p2 : pureE e = true) (h1 : getS en i = .ow xs) (h2 : pv P G ix en = .ok (.int k)) (h3 : pv P G e en = .ok d) (h4 : xs.length < line ∧ 0 ≤ k ∧ k < 2 ^ 63) (q : wp (exB P G b (en.set i (.ow (xs.take k.toNat ++ [d] ++ xs.drop k.toNat)))) Q) : wp (exB P G (.cons (.insX i ix e) b) en) Q := by
  refine xCons ⟨(.nx, en.set i (.ow (xs.take k.toNat ++ [d] ++ xs.drop k.toNat))), ?_, q⟩
  unfold ex
  rw [h1, ev_pv ix en p1, h2]
  simp only [Res.ok_bind]
  rw [ev_pv e en p2, h3]
  simp only [Res.ok_bind, h1, Res.pure_eq]
  rw [if_pos h4]
theorem xAug {i : Nat} {op : BOp} {a c : Int} {d : D} (p1 : pureE e = true) (h1 : getS en i = .fz (.int a)) (h2 : pv P G e en = .ok (.int c)) (h3 : binI op a c = .ok d) (q : wp (exB P G b (en.set i (.fz d))) Q) : wp (exB P G (.cons (.aug i op e) b) en) Q := by
  refine xCons ⟨(.nx, en.set i (.fz d)), ?_, q⟩
  unfold ex
  rw [h1, ev_pv e en p1, h2]
  simp only [asInt, Res.ok_bind, h3, Res.pure_eq]
theorem xAugI {i : Nat} {ix : Ex} {op : BOp} {xs ys : List D} {k a c : Int} {d : D} (p1 : pureE e = true) (p2 : pureE ix = true) (h0 : getS en i = .ow xs) (h1 : pv P G ix en = .ok (.int k)) (h2 : L2.atI xs k = some (.int a)) (h3 : pv P G e en = .ok (.int c)) (h4 : binI op a c = .ok d)
    (h5 : putIx xs k d = some ys) (q : wp (exB P G b (en.set i (.ow ys))) Q) : wp (exB P G (.cons (.augI i ix op e) b) en) Q := by
  refine xCons ⟨(.nx, en.set i (.ow ys)), ?_, q⟩
  unfold ex
  rw [show ev P G (.bvar i) en = .ok (.lst xs, en) by unfold ev; rw [h0]]
  simp only [Res.ok_bind]
  rw [ev_pv ix en p2, h1]
  simp only [Res.ok_bind, h0, h2, ofO, asInt]
  rw [ev_pv e en p1, h3]
  simp only [Res.ok_bind, asInt, h4, h0, h5, ofO, Res.pure_eq]
theorem xRet (h : wp (ev P G e en) fun r => Q (.ret r.1, r.2)) : wp (exB P G (.cons (.ret e) b) en) Q := by
  refine xCons ?_
  unfold ex
  exact wp_bind (wp_mono h fun r hr => wp_ok hr)
theorem xRetN (h : Q (.ret .non, en)) : wp (exB P G (.cons .retN b) en) Q := by
  refine xCons ?_
  unfold ex
  exact wp_ok h
theorem xRetO {i : Nat} {xs : List D} (h1 : getS en i = .ow xs) (h : Q (.retO i, en)) : wp (exB P G (.cons (.retO i) b) en) Q := by
  refine xCons ?_
  unfold ex
  rw [h1]
  exact wp_ok h
theorem xRetL {t : Nat} (h : wp (ev P G e en) fun r => ∃ xs, r.1 = .lst xs ∧ Q (.retO t, r.2.set t (.ow xs))) : wp (exB P G (.cons (.retL t e) b) en) Q := by
  refine xCons ?_
  unfold ex
  refine wp_bind (wp_mono h fun r hr => ?_)
  obtain ⟨d, en'⟩ := r
  obtain ⟨xs, e, q⟩ := hr
  cases e
  exact wp_ok q
theorem xExpr (h : wp (ev P G e en) fun r => wp (exB P G b r.2) Q) : wp (exB P G (.cons (.expr e) b) en) Q := by
  refine xCons ?_
  unfold ex
  exact wp_bind (wp_mono h fun r hr => wp_ok hr)
theorem xPass (h : wp (exB P G b en) Q) : wp (exB P G (.cons .pass b) en) Q := by
  refine xCons ?_
  unfold ex
  exact wp_ok h
theorem xBrk (h : Q (.brk, en)) : wp (exB P G (.cons .brk b) en) Q := by
  refine xCons ?_
  unfold ex
  exact wp_ok h
theorem xCnt (h : Q (.cnt, en)) : wp (exB P G (.cons .cnt b) en) Q := by
  refine xCons ?_
  unfold ex
  exact wp_ok h
theorem xFz {i : Nat} {xs : List D} (h1 : getS en i = .ow xs) (h : wp (exB P G b (en.set i (.fz (.lst xs)))) Q) : wp (exB P G (.cons (.fz i) b) en) Q := by
  refine xCons ?_
  unfold ex
  rw [h1]
  exact wp_ok h
theorem xFzD {i : Nat} {ks vs : List D} (h1 : getS en i = .od ks vs) (h : wp (exB P G b (en.set i (.fz (.dic ks vs)))) Q) : wp (exB P G (.cons (.fz i) b) en) Q := by
  refine xCons ?_
  unfold ex
  rw [h1]
  exact wp_ok h
theorem xFzM {i : Nat} {rows : List (List D)} (h1 : getS en i = .om rows) (h : wp (exB P G b (en.set i (.fz (.lst (rows.map D.lst))))) Q) : wp (exB P G (.cons (.fz i) b) en) Q := by
  refine xCons ?_
  unfold ex
  rw [h1]
  exact wp_ok h
/-- an if: its test, then either way -/
theorem xIf {c : Ex} {a a2 : Blk} (h : wp (ev P G c en) fun r => ∃ t, r.1 = .bl t ∧ (t = true → wp (exB P G a r.2) (aft (exB P G b) Q)) ∧ (t = false → wp (exB P G a2 r.2) (aft (exB P G b) Q))) : wp (exB P G (.cons (.ife c a a2) b) en) Q := by
  refine xCons ?_
  unfold ex
  refine wp_bind (wp_mono h fun r hr => ?_)
  obtain ⟨d, en'⟩ := r
  obtain ⟨t, e, q1, q2⟩ := hr
  cases e
  simp only [asBl, Res.ok_bind]
  cases t
  · rw [if_neg (by decide)]; exact q2 rfl
  · rw [if_pos rfl]; exact q1 rfl
/-- a test that fails, nothing else told -/
theorem xSkip {c : Ex} {a : Blk} (hp : pureE c = true) (h : pv P G c en = .ok (.bl false)) (q : wp (exB P G b en) Q) : wp (exB P G (.cons (.ife c a .nil) b) en) Q :=
  xIf (wpE hp h ⟨false, rfl, fun z => (nomatch z), fun _ => xNil (show aft (exB P G b) Q (.nx, en) from q)⟩)
theorem wp_for {step : D → En → Res (Flow × En)} {R : Flow × En → Prop} (I : List D → En → Prop) : ∀ (todo done : List D) (en : En), I done en →
    (∀ d1 d d2 en, done ++ todo = d1 ++ d :: d2 → I d1 en → wp (step d en) fun r => match r.1 with | .nx => I (d1 ++ [d]) r.2 | .cnt => I (d1 ++ [d]) r.2 | .brk => R (.nx, r.2) | x => R (x, r.2)) →
    (∀ en, I (done ++ todo) en → R (.nx, en)) → wp (forGo step todo en) R
  | [], done, en, h0, _, hq => by unfold forGo; exact wp_ok (hq en (by rw [List.append_nil]; exact h0))
  | d :: todo, done, en, h0, hs, hq => by
    unfold forGo
    refine wp_bind (wp_mono (hs done d todo en rfl h0) fun r hr => ?_)
    have e : done ++ d :: todo = (done ++ [d]) ++ todo := by simp
    rw [e] at hs hq
    obtain ⟨f, en'⟩ := r
    cases f with
    | nx => exact wp_for I todo (done ++ [d]) en' hr hs hq
    | cnt => exact wp_for I todo (done ++ [d]) en' hr hs hq
    | brk => exact wp_ok hr
    | ret d => exact wp_ok hr
    | retO i => exact wp_ok hr
    | thr c p => exact wp_ok hr
/-- a loop over what is told by a list -/
theorem xFor {α : Type} {pt : Pat} {sk : SK} {src : Exs} {a : Blk} (g : α → D) (l : List α) (I : List α → En → Prop) (hp : pureA src = true) {ds : List D} (h1 : pvs P G src en = .ok ds) (h2 : srcI sk ds = .ok (l.map g)) (h0 : I [] en)
    (hs : ∀ d1 x d2 en, l = d1 ++ x :: d2 → I d1 en → wp (bindP pt (g x) en) fun en1 => wp (exB P G a en1) fun r => match r.1 with | .nx => I (d1 ++ [x]) r.2 | .cnt => I (d1 ++ [x]) r.2 | .brk => wp (exB P G b r.2) Q | y => Q (y, r.2))
    (hq : ∀ en, I l en → wp (exB P G b en) Q) : wp (exB P G (.cons (.forr pt sk src a) b) en) Q := by
  refine xCons ?_
  unfold ex
  rw [evs_pvs src en hp, h1]
  simp only [Res.ok_bind]
  rw [h2]
  refine wp_for (fun ds en => ∃ d1 d2, l = d1 ++ d2 ∧ ds = d1.map g ∧ I d1 en) (l.map g) [] en ⟨[], l, rfl, rfl, h0⟩ ?_ ?_
  · rintro _ d d2 en1 e ⟨d1, r1, e1, rfl, i1⟩
    rw [List.nil_append, e1, List.map_append] at e
    have e2 := List.append_cancel_left e
    cases r1 with
    | nil => cases e2
    | cons x r1 =>
      cases e2
      refine wp_bind (wp_mono (hs d1 x r1 en1 e1 i1) fun en2 h3 => wp_mono h3 fun r hr => ?_)
      obtain ⟨f, en3⟩ := r
      cases f with
      | nx => exact ⟨d1 ++ [x], r1, by rw [e1]; simp, by simp, hr⟩
      | cnt => exact ⟨d1 ++ [x], r1, by rw [e1]; simp, by simp, hr⟩
      | brk => exact hr
      | ret _ => exact hr
      | retO _ => exact hr
      | thr _ _ => exact hr
  · rintro en1 ⟨d1, d2, e1, e2, i1⟩
    have : d1 = l := by
      have := congrArg List.length e2
      rw [List.nil_append, List.length_map, List.length_map] at this
      rw [e1] at this
      rw [List.length_append] at this
      have : d2 = [] := List.eq_nil_of_length_eq_zero (by omega)
      rw [e1, this, List.append_nil]
    subst this
    exact hq en1 i1
/-- a def -/
theorem wp_fn {fns : List Fn} {fn : Fn} {k i : Nat} {sl : List Slot} {R : D × List (List D) → Prop} (hf : fns[i]? = some fn) (hio : okArgs fn.own fn.io sl = true)
    (h : wp (exB (tab G fns k) G fn.body (sl ++ List.replicate (fn.slots - fn.io.length) .no)) fun r => ∃ o, lentBack sl r.2 = some o ∧ match r.1, fn.own with
      | .ret d, .dat => R (d, o)
      | .nx, .dat => R (.non, o)
      | .nx, .ini => ∃ c ds, getS r.2 0 = .fz (.obj c ds) ∧ R (.obj c ds, o)
      | .retO j, .ow => ∃ xs, getS r.2 j = .ow xs ∧ fn.io.getD j false = false ∧ R (.lst xs, o)
      | _, _ => False) : wp (tab G fns (k + 1) i sl) R := by
  unfold tab
  rw [hf]
  show wp (runFn (tab G fns k) G fn sl) R
  unfold runFn
  rw [if_pos hio]
  refine wp_bind ?_
  obtain ⟨r, hr, o, e, q⟩ := h
  rw [hr]
  refine wp_ok ?_
  obtain ⟨fl, en⟩ := r
  dsimp only at q e
  cases hown : fn.own <;> rw [hown] at q <;> cases fl <;> first
    | exact q.elim
    | (dsimp only at q ⊢; unfold endFn; rw [e, hown]; exact wp_ok q)
    | (obtain ⟨c, ds, e1, q⟩ := q; dsimp only at e1 ⊢; unfold endFn; rw [e, hown]; simp only [ofO, Res.ok_bind, e1]; exact wp_ok q)
    | (obtain ⟨xs, e1, e2, q⟩ := q; dsimp only at e1 ⊢; unfold endFn; rw [e, hown]; simp only [ofO, Res.ok_bind, e1, e2]; exact wp_ok q)
/-- a def that raises -/
theorem fn_exc {fns : List Fn} {fn : Fn} {k i c : Nat} {p : D} {sl : List Slot} (hf : fns[i]? = some fn) (hio : okArgs fn.own fn.io sl = true)
    (h : wp (exB (tab G fns k) G fn.body (sl ++ List.replicate (fn.slots - fn.io.length) .no)) fun r => r.1 = .thr c p) : tab G fns (k + 1) i sl = .exc c p := by
  unfold tab
  rw [hf]
  show runFn (tab G fns k) G fn sl = _
  unfold runFn
  rw [if_pos hio]
  obtain ⟨r, hr, q⟩ := h
  rw [hr]
  obtain ⟨fl, en⟩ := r
  cases q
  rfl
/-- a raise -/
theorem xRaise {c : Nat} {d : D} (hp : pureE e = true) (h : pv P G e en = .ok d) (q : Q (.thr c d, wipA en)) : wp (exB P G (.cons (.raise c e) b) en) Q := by
  refine xCons ?_
  unfold ex
  rw [ev_pv e en hp, h]
  exact wp_ok q
/-- .. calls that may raise, nothing lent -/
theorem xExprX {f : Nat} {es : Exs} {ds : List D} (hp : pureA es = true) (hb : noB es = true) (h1 : pvs P G es en = .ok ds) (h : (∃ q, P f (ds.map .fz) = .ok q ∧ wp (exB P G b en) Q) ∨ ∃ c p, P f (ds.map .fz) = .exc c p ∧ Q (.thr c p, wipA en)) : wp (exB P G (.cons (.exprX f es) b) en) Q := by
  refine xCons ?_
  unfold ex
  rw [evs_pvs es en hp, h1]
  simp only [Res.ok_bind]
  rw [lent_none hb, args_none en _ ds (pvs_len h1)]
  simp only [ofO, Res.ok_bind]
  unfold callX
  rcases h with ⟨q, e1, h⟩ | ⟨c, p, e1, h⟩
  · rw [e1]
    dsimp only
    rw [back_none]
    exact wp_ok h
  · rw [e1]
    exact wp_ok h
theorem xAsgX {i f : Nat} {es : Exs} {ds : List D} (hp : pureA es = true) (hb : noB es = true) (h1 : pvs P G es en = .ok ds) (h : (∃ d os, P f (ds.map .fz) = .ok (d, os) ∧ wp (exB P G b (en.set i (.fz d))) Q) ∨ ∃ c p, P f (ds.map .fz) = .exc c p ∧ Q (.thr c p, wipA en)) : wp (exB P G (.cons (.asgX i f es) b) en) Q := by
  refine xCons ?_
  unfold ex
  rw [evs_pvs es en hp, h1]
  simp only [Res.ok_bind]
  rw [lent_none hb, args_none en _ ds (pvs_len h1)]
  simp only [ofO, Res.ok_bind]
  unfold callX
  rcases h with ⟨d, os, e1, h⟩ | ⟨c, p, e1, h⟩
  · rw [e1]
    dsimp only
    rw [back_none]
    exact wp_ok h
  · rw [e1]
    exact wp_ok h
theorem xRetX {f : Nat} {es : Exs} {ds : List D} (hp : pureA es = true) (hb : noB es = true) (h1 : pvs P G es en = .ok ds) (h : (∃ d os, P f (ds.map .fz) = .ok (d, os) ∧ Q (.ret d, en)) ∨ ∃ c p, P f (ds.map .fz) = .exc c p ∧ Q (.thr c p, wipA en)) : wp (exB P G (.cons (.retX f es) b) en) Q := by
  refine xCons ?_
  unfold ex
  rw [evs_pvs es en hp, h1]
  simp only [Res.ok_bind]
  rw [lent_none hb, args_none en _ ds (pvs_len h1)]
  simp only [ofO, Res.ok_bind]
  unfold callX
  rcases h with ⟨d, os, e1, h⟩ | ⟨c, p, e1, h⟩
  · rw [e1]
    dsimp only
    rw [back_none]
    exact wp_ok h
  · rw [e1]
    exact wp_ok h
/-- try -/
theorem xTry {a : Blk} {i : Nat} {hs : List (List Nat × HR)} (h : wp (exB P G a en) fun r => match r.1 with
    | .thr c p => match findH c hs with
      | some k => Q (.ret (hrD k p), wipA en)
      | none => Q (.thr c p, r.2)
    | f => aft (exB P G b) Q (f, r.2)) : wp (exB P G (.cons (.tryx a i hs) b) en) Q := by
  refine xCons ?_
  unfold ex
  refine wp_bind (wp_mono h fun r hr => ?_)
  obtain ⟨f, en'⟩ := r
  cases f with
  | thr c p =>
    dsimp only at hr ⊢
    cases hf : findH c hs with
    | some k => rw [hf] at hr; exact wp_ok hr
    | none => rw [hf] at hr; exact wp_ok hr
  | nx => exact wp_ok hr
  | brk => exact wp_ok hr
  | cnt => exact wp_ok hr
  | ret d => exact wp_ok hr
  | retO j => exact wp_ok hr
def allFz : List Slot → Bool
  | [] => true
  | .fz _ :: sl => allFz sl
  | .slf _ :: sl => allFz sl
  | _ => false
theorem lent_fz : ∀ {sl : List Slot} {en : En}, allFz sl = true → sl.length ≤ en.length → lentBack sl en = some []
  | [], en, _, _ => by cases en <;> rfl
  | s :: sl, [], _, h => by simp at h
  | .fz d :: sl, e :: en, h, l => by
    unfold lentBack
    exact lent_fz (sl := sl) h (by simpa using l)
  | .slf d :: sl, e :: en, h, l => by
    unfold lentBack
    exact lent_fz (sl := sl) h (by simpa using l)
  | .no :: sl, _ :: _, h, _ => by cases h
  | .ow _ :: sl, _ :: _, h, _ => by cases h
  | .om _ :: sl, _ :: _, h, _ => by cases h
  | .od _ _ :: sl, _ :: _, h, _ => by cases h
/-- a def that no list is lent to -/
theorem fn_eq {fns : List Fn} {fn : Fn} {k i : Nat} {sl : List Slot} {d : D} (hf : fns[i]? = some fn) (hio : okArgs fn.own fn.io sl = true) (hz : allFz sl = true) (ho : fn.own = .dat)
    (h : wp (exB (tab G fns k) G fn.body (sl ++ List.replicate (fn.slots - fn.io.length) .no)) fun r => r.1 = .ret d ∧ sl.length ≤ r.2.length) : tab G fns (k + 1) i sl = .ok (d, []) := by
  refine wp_eq (wp_fn hf hio (wp_mono h fun r hr => ⟨[], lent_fz hz hr.2, ?_⟩))
  rw [hr.1, ho]
/-- a def that makes an object -/
theorem fn_ini {fns : List Fn} {fn : Fn} {k i c : Nat} {sl : List Slot} {ds : List D} (hf : fns[i]? = some fn) (hio : okArgs fn.own fn.io sl = true) (hz : allFz sl = true) (ho : fn.own = .ini)
    (h : wp (exB (tab G fns k) G fn.body (sl ++ List.replicate (fn.slots - fn.io.length) .no)) fun r => r.1 = .nx ∧ getS r.2 0 = .fz (.obj c ds) ∧ sl.length ≤ r.2.length) : tab G fns (k + 1) i sl = .ok (.obj c ds, []) := by
  refine wp_eq (wp_fn hf hio (wp_mono h fun r hr => ⟨[], lent_fz hz hr.2.2, ?_⟩))
  rw [hr.1, ho]
  exact ⟨c, ds, hr.2.1, rfl⟩
/-! what simp goes by -/
theorem getS_z {s : Slot} {en : En} : getS (s :: en) 0 = s := rfl
theorem getS_s {s : Slot} {en : En} {n : Nat} : getS (s :: en) (n + 1) = getS en n := rfl
theorem lcP_map {α β γ : Type} (f : β → Res (Option γ)) (g : α → β) : ∀ l : List α, lcP f (l.map g) = lcP (fun a => f (g a)) l
  | [] => rfl
  | a :: l => by unfold List.map lcP; rw [lcP_map f g l]
theorem lcP_some {α β : Type} (g : α → β) : ∀ l : List α, lcP (fun a => Res.ok (some (g a))) l = .ok (l.map g)
  | [] => rfl
  | a :: l => by unfold lcP; rw [lcP_some g l]; rfl
theorem lcP_filter {α β : Type} (p : α → Bool) (g : α → β) : ∀ l : List α, lcP (fun a => if p a = true then Res.ok (some (g a)) else Res.ok none) l = .ok ((l.filter p).map g)
  | [] => rfl
  | a :: l => by
    unfold lcP
    rw [lcP_filter p g l]
    by_cases h : p a = true
    · rw [if_pos h, List.filter_cons_of_pos h]; rfl
    · rw [if_neg h, List.filter_cons_of_neg h]; rfl
theorem lcP_congr {α β : Type} {f g : α → Res (Option β)} {l m : List α} (e : l = m) (h : ∀ a, a ∈ m → f a = g a) : lcP f l = lcP g m := by
  subst e
  induction l with
  | nil => rfl
  | cons a l ih =>
    unfold lcP
    rw [h a List.mem_cons_self, ih fun b hb => h b (List.mem_cons_of_mem _ hb)]
/-- all of a row told by a list -/
theorem lcP_all {α β : Type} {f : α → Res (Option β)} {g : α → β} {l : List α} (h : ∀ a ∈ l, f a = .ok (some (g a))) : lcP f l = .ok (l.map g) :=
  (lcP_congr rfl h).trans (lcP_some g l)
theorem lcP_those {α β : Type} {f : α → Res (Option β)} {p : α → Bool} {g : α → β} {l : List α} (h : ∀ a ∈ l, f a = if p a = true then .ok (some (g a)) else .ok none) : lcP f l = .ok ((l.filter p).map g) :=
  (lcP_congr rfl h).trans (lcP_filter p g l)
theorem atI_n {α : Type} {xs : List α} {k : Nat} {a : α} (h : xs[k]? = some a) : L2.atI xs ((k : Nat) : Int) = some a := L2.atI_nat h
theorem sub_tup {xs : List D} {k : Nat} {d : D} (h : xs[k]? = some d) : subD (.tup xs) (.int ((k : Nat) : Int)) = .ok d := by
  show ofO (L2.atI xs _) = _
  rw [atI_n h]; rfl
theorem sub_lst {xs : List D} {k : Nat} {d : D} (h : xs[k]? = some d) : subD (.lst xs) (.int ((k : Nat) : Int)) = .ok d := by
  show ofO (L2.atI xs _) = _
  rw [atI_n h]; rfl
theorem sub_t0 {x : D} {xs : List D} : subD (.tup (x :: xs)) (.int 0) = .ok x := sub_tup (k := 0) rfl
theorem sub_t1 {x y : D} {xs : List D} : subD (.tup (x :: y :: xs)) (.int 1) = .ok y := sub_tup (k := 1) rfl
theorem sub_t2 {x y z : D} {xs : List D} : subD (.tup (x :: y :: z :: xs)) (.int 2) = .ok z := sub_tup (k := 2) rfl
theorem sub_t3 {x y z u : D} {xs : List D} : subD (.tup (x :: y :: z :: u :: xs)) (.int 3) = .ok u := sub_tup (k := 3) rfl
theorem sub_l0 {x : D} {xs : List D} : subD (.lst (x :: xs)) (.int 0) = .ok x := sub_lst (k := 0) rfl
theorem sub_l1 {x y : D} {xs : List D} : subD (.lst (x :: y :: xs)) (.int 1) = .ok y := sub_lst (k := 1) rfl
theorem sub_l2 {x y z : D} {xs : List D} : subD (.lst (x :: y :: z :: xs)) (.int 2) = .ok z := sub_lst (k := 2) rfl
theorem sub_l3 {x y z u : D} {xs : List D} : subD (.lst (x :: y :: z :: u :: xs)) (.int 3) = .ok u := sub_lst (k := 3) rfl
theorem sub_last {xs : List D} {x : D} : subD (.lst (xs ++ [x])) (.int (-1)) = .ok x := by
  show ofO (L2.atI _ _) = _
  rw [L2.atI_last]; rfl
theorem ite_ok_and {a b : Bool} : (if a = true then Res.ok (D.bl b) else Res.ok (.bl false)) = .ok (.bl (a && b)) := by cases a <;> rfl
theorem ite_ok_or {a b : Bool} : (if a = true then Res.ok (D.bl true) else Res.ok (.bl b)) = .ok (.bl (a || b)) := by cases a <;> rfl
theorem rng_nat (n : Nat) (h : n ≤ line) : srcI .rng1 [.int (n : Nat)] = .ok ((List.range n).map fun k => .int ((k : Nat) : Int)) := by
  have e : (big62 (n : Nat) = true ∧ ((n : Nat) : Int).toNat ≤ line) := ⟨by unfold line at h; unfold big62; rw [Bool.and_eq_true, decide_eq_true_eq, decide_eq_true_eq]; omega, by rw [Int.toNat_natCast]; exact h⟩
  simp only [srcI]
  rw [if_pos e, Int.toNat_natCast]
  unfold rangeD
  simp only [Int.zero_add]
theorem atI_map {α : Type} (f : α → D) (xs : List α) (k : Nat) (h : k < xs.length) : L2.atI (xs.map f) ((k : Nat) : Int) = some (f xs[k]) := L2.atI_nat (by rw [List.getElem?_map, List.getElem?_eq_getElem h]; rfl)
theorem subt_map {α : Type} (f : α → D) (xs : List α) (k : Nat) (h : k < xs.length) : subD (.tup (xs.map f)) (.int ((k : Nat) : Int)) = .ok (f xs[k]) := by
  show ofO (L2.atI _ _) = _
  rw [atI_map f xs k h]; rfl
theorem subl_map {α : Type} (f : α → D) (xs : List α) (k : Nat) (h : k < xs.length) : subD (.lst (xs.map f)) (.int ((k : Nat) : Int)) = .ok (f xs[k]) := by
  show ofO (L2.atI _ _) = _
  rw [atI_map f xs k h]; rfl
theorem lt_int {i j : Int} : ltT (.int i) (.int j) = some (decide (i < j)) := rfl
theorem ofO_some {α : Type} {a : α} : ofO (some a) = .ok a := rfl
theorem allT0 : allT [] = .ok true := rfl
theorem allT1 {b : Bool} : allT [.bl b] = .ok b := by cases b <;> rfl
theorem ite_true_ok {α β : Type} {a b : α} : (if true = true then a else b) = a := rfl
end Vi

/-! Vi, part 24: what simp goes by. -/
namespace Vi
open PySem

theorem bOk {α β : Type} (a : α) (f : α → Res β) : (Res.ok a >>= f) = f a := by rfl
def varD : Slot → Res D
  | .fz d => .ok d
  | _ => .bad
def bvarD : Slot → Res D
  | .ow xs => .ok (.lst xs)
  | .od ks vs => .ok (.dic ks vs)
  | _ => .bad
def gcD (G : List D) (g : Nat) : Res D := match G[g]? with
  | some d => .ok d
  | none => .bad
theorem varD_fz {d : D} : varD (.fz d) = .ok d := by rfl
theorem bvarD_ow {xs : List D} : bvarD (.ow xs) = .ok (.lst xs) := by rfl
theorem bvarD_od {ks vs : List D} : bvarD (.od ks vs) = .ok (.dic ks vs) := by rfl
theorem gS0 {s : Slot} {en : En} : getS (s :: en) 0 = s := by rfl
theorem gSs {s : Slot} {en : En} {n : Nat} : getS (s :: en) (n + 1) = getS en n := by rfl
section
variable {P : Tb} {G : List D} {en : En}
theorem p_var {i : Nat} : pv P G (.var i) en = varD (getS en i) := by unfold pv varD; cases getS en i <;> rfl
theorem p_bvar {i : Nat} : pv P G (.bvar i) en = bvarD (getS en i) := by unfold pv bvarD; cases getS en i <;> rfl
theorem p_int {i : Int} : pv P G (.int i) en = .ok (.int i) := by rw [pv] <;> try rfl
theorem p_str {x : Str} : pv P G (.str x) en = .ok (.str x) := by rw [pv] <;> try rfl
theorem p_non : pv P G .non en = .ok .non := by rw [pv] <;> try rfl
theorem p_bl {b : Bool} : pv P G (.bl b) en = .ok (.bl b) := by rw [pv] <;> try rfl
theorem p_nop : pv P G .nop en = .ok .non := by rw [pv] <;> try rfl
theorem p_dnew : pv P G .dnew en = .ok (.dic [] []) := by rw [pv] <;> try rfl
theorem p_gc {g : Nat} : pv P G (.gc g) en = gcD G g := by unfold pv gcD; cases G[g]? <;> rfl
theorem p_tup {es : Exs} : pv P G (.tup es) en = (pvs P G es en >>= fun ds => .ok (.tup ds)) := by rw [pv] <;> try rfl
theorem p_lst {es : Exs} : pv P G (.lst es) en = (pvs P G es en >>= fun ds => .ok (.lst ds)) := by rw [pv] <;> try rfl
theorem p_bin {op : BOp} {a b : Ex} : pv P G (.bin op a b) en = (pv P G a en >>= fun d => pv P G b en >>= fun e => binD op d e) := by rw [pv] <;> try rfl
theorem p_neg {a : Ex} : pv P G (.neg a) en = (pv P G a en >>= fun d => asInt d >>= fun i => .ok (.int (-i))) := by rw [pv] <;> try rfl
theorem p_not {a : Ex} : pv P G (.not a) en = (pv P G a en >>= fun d => asBl d >>= fun b => .ok (.bl (!b))) := by rw [pv] <;> try rfl
theorem p_cmp {op : COp} {a b : Ex} : pv P G (.cmp op a b) en = (pv P G a en >>= fun d => pv P G b en >>= fun e => cmpD op d e >>= fun c => .ok (.bl c)) := by rw [pv] <;> try rfl
theorem p_chain {op op' : COp} {a b c : Ex} : pv P G (.chain op op' a b c) en = (pv P G a en >>= fun d => pv P G b en >>= fun e => cmpD op d e >>= fun t => if t = true then (pv P G c en >>= fun g => cmpD op' e g >>= fun u => .ok (.bl u)) else .ok (.bl false)) := by rw [pv] <;> try rfl
theorem p_and {a b : Ex} : pv P G (.and a b) en = (pv P G a en >>= fun d => asBl d >>= fun t => if t = true then pv P G b en else .ok (.bl false)) := by rw [pv] <;> try rfl
theorem p_or {a b : Ex} : pv P G (.or a b) en = (pv P G a en >>= fun d => asBl d >>= fun t => if t = true then .ok (.bl true) else pv P G b en) := by rw [pv] <;> try rfl
theorem p_ite {c a b : Ex} : pv P G (.ite c a b) en = (pv P G c en >>= fun d => asBl d >>= fun t => if t = true then pv P G a en else pv P G b en) := by rw [pv] <;> try rfl
theorem p_call {f : Nat} {es : Exs} : pv P G (.call f es) en = (pvs P G es en >>= fun ds => P f (ds.map .fz) >>= fun q => .ok q.1) := by rw [pv] <;> try rfl
theorem p_blt {f : BF} {es : Exs} : pv P G (.blt f es) en = (pvs P G es en >>= fun ds => bfn f ds) := by rw [pv] <;> try rfl
theorem p_isi {a : Ex} {ty : Ty} : pv P G (.isi a ty) en = (pv P G a en >>= fun d => isiD ty d >>= fun b => .ok (.bl b)) := by rw [pv] <;> try rfl
theorem p_sub {a i : Ex} : pv P G (.sub a i) en = (pv P G a en >>= fun d => pv P G i en >>= fun e => subD d e) := by rw [pv] <;> try rfl
def dsubD : D → D → Res D
  | .dic ks vs, k => if keyOk k = true then ofO (dget ks vs k) else .bad
  | _, _ => .bad
theorem p_dsub {a i : Ex} : pv P G (.dsub a i) en = (pv P G a en >>= fun d => pv P G i en >>= fun e => dsubD d e) := by
  rw [pv]
  refine Res.bind_congr fun d _ => Res.bind_congr fun e _ => ?_
  cases d <;> rfl
theorem p_fld {c k : Nat} {a : Ex} : pv P G (.fld c k a) en = (pv P G a en >>= fun d => fldD c k d) := by rw [pv] <;> try rfl
theorem p_isc {c : Nat} {a : Ex} : pv P G (.isc c a) en = (pv P G a en >>= fun d => iscD c d >>= fun b => .ok (.bl b)) := by rw [pv] <;> try rfl
theorem p_make {c f : Nat} {es : Exs} : pv P G (.make c f es) en = (pvs P G es en >>= fun ds => P f (.slf c :: ds.map .fz) >>= fun q => .ok q.1) := by rw [pv] <;> try rfl
theorem p_meth {c f : Nat} {es : Exs} : pv P G (.meth c f es) en = (pvs P G es en >>= fun ds => if isObj c ds = true then (P f (ds.map .fz) >>= fun q => .ok q.1) else .bad) := by rw [pv] <;> try rfl
theorem p_om2 {i : Nat} {a b : Ex} : pv P G (.om2 i a b) en = (pv P G a en >>= fun d => pv P G b en >>= fun e => om2D (getS en i) d e) := by rw [pv] <;> try rfl
theorem p_prim {p : Prim} {es : Exs} : pv P G (.prim p es) en = (pvs P G es en >>= fun ds => primD p ds) := by rw [pv] <;> try rfl
theorem p_lcm {own : List Nat} {pt : Pat} {sk : SK} {src cnd : Exs} {elt : Ex} : pv P G (.lcm own pt sk src cnd elt) en = (pvs P G src en >>= fun ds => srcI sk ds >>= fun its =>
    lcP (fun d => bindP pt d (wipeE own en) >>= fun en1 => pvs P G cnd en1 >>= fun cs => allT cs >>= fun t => if t = true then (pv P G elt en1 >>= fun y => .ok (some y)) else .ok none) its >>= fun ys => .ok (.lst ys)) := by rw [pv] <;> try rfl
theorem fld_0 {c : Nat} {x : D} {xs : List D} : fldD c 0 (.obj c (x :: xs)) = .ok x := by simp [fldD, ofO]
theorem fld_1 {c : Nat} {x y : D} {xs : List D} : fldD c 1 (.obj c (x :: y :: xs)) = .ok y := by simp [fldD, ofO]
theorem fld_2 {c : Nat} {x y z : D} {xs : List D} : fldD c 2 (.obj c (x :: y :: z :: xs)) = .ok z := by simp [fldD, ofO]
theorem fld_3 {c : Nat} {x y z w : D} {xs : List D} : fldD c 3 (.obj c (x :: y :: z :: w :: xs)) = .ok w := by simp [fldD, ofO]
theorem isc_ok {c : Nat} {ds : List D} : iscD c (.obj c ds) = .ok true := by simp [iscD]
theorem obj_ok {c : Nat} {ds xs : List D} : isObj c (.obj c ds :: xs) = true := by unfold isObj; exact decide_eq_true rfl
def kmaxD (o : Option (List D)) (f : D → List D → Res D) (d : D) : Res D := match d with
  | .lst ds => match o with
    | some cs => do
      let ks ← mapRes (fun d => f d cs) ds
      match maxKey ds ks with
      | some m => .ok m
      | none => .bad
    | none => .bad
  | _ => .bad
theorem p_mdef {mx : Bool} {a i : Ex} : pv P G (.mdef mx a i) en = (pv P G a en >>= fun d => pv P G i en >>= fun e => mdefD mx d e) := by rw [pv] <;> try rfl
theorem p_kmax {a b : Ex} {js : List Nat} {nms : List Str} : pv P G (.kmax a js nms b) en = (pv P G a en >>= fun d => kmaxD (capsD en js) (fun d cs => pv P G b (.fz d :: cs.map .fz)) d) := by
  rw [pv] <;> try rfl
theorem p_asked {x : Str} {ak : AK} {hs : List (List Nat × HR)} {c : Option Nat} {f : Nat} {es : Exs} : pv P G (.asked x ak hs c f es) en = (pvs P G es (maskE en) >>= fun ds => askR ak hs (P f (ofC c ++ ds.map .fz))) := by rw [pv] <;> try rfl
def odD : Slot → Res D
  | .od ks vs => .ok (.dic ks vs)
  | _ => .bad
def lkI : D → Res D
  | .lst xs => intsD xs >>= fun _ => .ok (.lst xs)
  | _ => .bad
theorem p_lk {i : Nat} {a : Ex} : pv P G (.lk i a) en = (odD (getS en i) >>= fun k => pv P G a ((maskE en).set i (.fz k)) >>= fun d => lkI d) := by
  rw [pv]
  cases getS en i <;> try rfl
theorem odD_od {ks vs : List D} : odD (.od ks vs) = .ok (.dic ks vs) := by rfl
theorem mask0 : maskE [] = [] := by rfl
theorem mask_c {s : Slot} {en : En} : maskE (s :: en) = maskS s :: maskE en := by rfl
theorem ms_fz {d : D} : maskS (.fz d) = .fz d := by rfl
theorem ms_ow {d : List D} : maskS (.ow d) = .no := by rfl
theorem ms_od {d e : List D} : maskS (.od d e) = .no := by rfl
theorem ms_no : maskS .no = .no := by rfl
def trevD : D → Res D
  | .lst xs => .ok (.tup xs.reverse)
  | _ => .bad
theorem p_trev {a : Ex} : pv P G (.trev a) en = (pv P G a en >>= fun d => trevD d) := by
  rw [pv]
  refine Res.bind_congr fun d _ => ?_
  cases d <;> rfl
theorem t_rev {xs : List D} : trevD (.lst xs) = .ok (.tup xs.reverse) := by rfl
def ssetD : D → Res D
  | .lst xs => intsD xs >>= fun ns => if ns.length < 60 then .ok (.lst ((risI ns).map .int)) else .bad
  | _ => .bad
theorem p_sset {a : Ex} : pv P G (.sset a) en = (pv P G a en >>= fun d => ssetD d) := by
  rw [pv]
  refine Res.bind_congr fun d _ => ?_
  cases d <;> rfl
theorem p_slice {a lo hi : Ex} : pv P G (.slice a lo hi) en = (pv P G a en >>= fun d => pv P G lo en >>= fun e => pv P G hi en >>= fun g => optI (isNop lo) e >>= fun x => optI (isNop hi) g >>= fun y => sliceD d x y) := by rw [pv] <;> try rfl
theorem p_lc {own : List Nat} {pt : Pat} {sk : SK} {src cnd : Exs} {elt : Ex} : pv P G (.lc own pt sk src cnd elt) en = (pvs P G src en >>= fun ds => srcI sk ds >>= fun its =>
    lcP (fun d => bindP pt d (wipeE own en) >>= fun en1 => pvs P G cnd en1 >>= fun cs => allT cs >>= fun t => if t = true then (pv P G elt en1 >>= fun y => .ok (some y)) else .ok none) its >>= fun ys => .ok (.lst ys)) := by rw [pv] <;> try rfl
theorem p_lc2 {own : List Nat} {pt : Pat} {sk : SK} {src cnd : Exs} {vs : List Nat} {pt1 : Pat} {sk1 : SK} {src1 cnd1 : Exs} {elt : Ex} : pv P G (.lc2 own pt sk src cnd vs pt1 sk1 src1 cnd1 elt) en = (pvs P G src en >>= fun ds => srcI sk ds >>= fun its =>
    lcC (fun d => bindP pt d (wipeE own en) >>= fun en1 => pvs P G cnd en1 >>= fun cs => allT cs >>= fun t => if t = true then (pvs P G src1 en1 >>= fun ds1 => srcI sk1 ds1 >>= fun its1 =>
      lcP (fun d => bindP pt1 d (wipeE vs en1) >>= fun en2 => pvs P G cnd1 en2 >>= fun cs1 => allT cs1 >>= fun t1 => if t1 = true then (pv P G elt en2 >>= fun y => .ok (some y)) else .ok none) its1) else .ok []) its >>= fun ys => capD ys) := by rw [pv] <;> try rfl
theorem p_nil : pvs P G .nil en = .ok [] := by rw [pvs] <;> try rfl
theorem p_cons {e : Ex} {es : Exs} : pvs P G (.cons e es) en = (pv P G e en >>= fun d => pvs P G es en >>= fun ds => .ok (d :: ds)) := by rw [pvs] <;> try rfl
end
theorem bind_v {i : Nat} {d : D} {en : En} : bindP (.v i) d en = .ok (en.set i (.fz d)) := by rfl
theorem bind_t2 {i j : Nat} {a b : D} {en : En} : bindP (.t [i, j]) (.tup [a, b]) en = .ok ((en.set i (.fz a)).set j (.fz b)) := by rfl
theorem bind_t3 {i j k : Nat} {a b c : D} {en : En} : bindP (.t [i, j, k]) (.tup [a, b, c]) en = .ok (((en.set i (.fz a)).set j (.fz b)).set k (.fz c)) := by rfl
theorem bind_t4 {i j k l : Nat} {a b c d : D} {en : En} : bindP (.t [i, j, k, l]) (.tup [a, b, c, d]) en = .ok ((((en.set i (.fz a)).set j (.fz b)).set k (.fz c)).set l (.fz d)) := by rfl
theorem wipe0 {en : En} : wipeE [] en = en := by rfl
theorem wipeC {i : Nat} {is : List Nat} {en : En} : wipeE (i :: is) en = (wipeE is en).set i .no := by rfl
theorem setZ {α : Type} {s t : α} {en : List α} : (s :: en).set 0 t = t :: en := by rfl
theorem setC {α : Type} {s t : α} {en : List α} {n : Nat} : (s :: en).set (n + 1) t = s :: en.set n t := by rfl
theorem asInt_i {i : Int} : asInt (.int i) = .ok i := by rfl
theorem asBl_b {b : Bool} : asBl (.bl b) = .ok b := by rfl
theorem ofO_s {α : Type} {a : α} : ofO (some a) = .ok a := by rfl
theorem allT_0 : allT [] = .ok true := by rfl
theorem allT_1 {b : Bool} : allT [.bl b] = .ok b := by cases b <;> rfl
theorem if_t {α : Type} {a b : α} : (if true = true then a else b) = a := by rfl
theorem if_f {α : Type} {a b : α} : (if false = true then a else b) = b := by rfl
theorem if_and {a b : Bool} : (if a = true then Res.ok (D.bl b) else Res.ok (.bl false)) = .ok (.bl (a && b)) := by cases a <;> rfl
theorem if_or {a b : Bool} : (if a = true then Res.ok (D.bl true) else Res.ok (.bl b)) = .ok (.bl (a || b)) := by cases a <;> rfl
theorem bind_if {α β : Type} {c : Prop} [Decidable c] {a b : Res α} {f : α → Res β} : ((if c then a else b) >>= f) = if c then a >>= f else b >>= f := by split <;> rfl
/-! comparisons -/
theorem c_lt {i j : Int} : cmpD .lt (.int i) (.int j) = .ok (decide (i < j)) := by rfl
theorem c_gt {i j : Int} : cmpD .gt (.int i) (.int j) = .ok (decide (j < i)) := by rfl
theorem c_le {i j : Int} : cmpD .le (.int i) (.int j) = .ok (decide (i ≤ j)) := by rfl
theorem c_ge {i j : Int} : cmpD .ge (.int i) (.int j) = .ok (decide (j ≤ i)) := by rfl
theorem c_eq {a b : D} : cmpD .eq a b = eqD a b := by rfl
theorem c_ne {a b : D} : cmpD .ne a b = (eqD a b >>= fun c => .ok (!c)) := by rfl
theorem c_is {d : D} : cmpD .is d .non = .ok (isNon d) := by cases d <;> rfl
theorem c_isnot {d : D} : cmpD .isnot d .non = .ok (!isNon d) := by cases d <;> rfl
theorem c_isB {a b : Bool} : cmpD .is (.bl a) (.bl b) = .ok (decide (a = b)) := by rfl
theorem c_isnotB {a b : Bool} : cmpD .isnot (.bl a) (.bl b) = .ok (!decide (a = b)) := by rfl
theorem c_inT {x : D} {ys : List D} : cmpD .isin x (.tup ys) = inD x ys := by cases x <;> rfl
theorem c_inL {x : D} {ys : List D} : cmpD .isin x (.lst ys) = inD x ys := by cases x <;> rfl
theorem c_ninT {x : D} {ys : List D} : cmpD .notin x (.tup ys) = (inD x ys >>= fun c => .ok (!c)) := by cases x <;> rfl
theorem c_ninL {x : D} {ys : List D} : cmpD .notin x (.lst ys) = (inD x ys >>= fun c => .ok (!c)) := by cases x <;> rfl
theorem n_int {i : Int} : isNon (.int i) = false := by rfl
theorem n_bl {b : Bool} : isNon (.bl b) = false := by rfl
theorem n_str {x : Str} : isNon (.str x) = false := by rfl
theorem n_tup {xs : List D} : isNon (.tup xs) = false := by rfl
theorem n_lst {xs : List D} : isNon (.lst xs) = false := by rfl
theorem n_non : isNon .non = true := by rfl
/-! numbers -/
theorem b_add {i j : Int} : binD .add (.int i) (.int j) = .ok (.int (i + j)) := by rfl
theorem b_sub {i j : Int} : binD .sub (.int i) (.int j) = .ok (.int (i - j)) := by rfl
theorem b_mul {i j : Int} (h : smallB i = true ∨ smallB j = true) : binD .mul (.int i) (.int j) = .ok (.int (i * j)) := by
  show (if (smallB i || smallB j) = true then Res.ok (D.int (i * j)) else .bad) = _
  rw [if_pos (by simpa using h)]
theorem b_mod {i j : Int} (h : 0 < j) : binD .mod (.int i) (.int j) = .ok (.int (i % j)) := by
  show (if 0 < j then Res.ok (D.int (i % j)) else .bad) = _
  rw [if_pos h]
theorem b_fdiv {i j : Int} (h : 0 < j ∧ j < 1073741824) : binD .fdiv (.int i) (.int j) = .ok (.int (i / j)) := by
  show (if 0 < j ∧ j < 1073741824 then Res.ok (D.int (i / j)) else .bad) = _
  rw [if_pos h]
theorem b_lst {xs ys : List D} (h : xs.length + ys.length ≤ line) : binD .add (.lst xs) (.lst ys) = .ok (.lst (xs ++ ys)) := by
  show (if BOp.add = .add ∧ xs.length + ys.length ≤ line then Res.ok (D.lst (xs ++ ys)) else .bad) = _
  rw [if_pos ⟨rfl, h⟩]
theorem b_tup {xs ys : List D} (h : xs.length + ys.length ≤ line) : binD .add (.tup xs) (.tup ys) = .ok (.tup (xs ++ ys)) := by
  show (if BOp.add = .add ∧ xs.length + ys.length ≤ line then Res.ok (D.tup (xs ++ ys)) else .bad) = _
  rw [if_pos ⟨rfl, h⟩]
theorem rep_map {α : Type} (x : α) (n : Nat) : (List.replicate n [x]).flatten = List.replicate n x := by
  induction n with
  | zero => rfl
  | succ n ih => rw [List.replicate_succ, List.flatten_cons, ih]; rfl
theorem b_rep {x : D} {n : Nat} (h : n ≤ line) : binD .mul (.lst [x]) (.int (n : Nat)) = .ok (.lst (List.replicate n x)) := by
  have e : True ∧ -(2 ^ 63) ≤ ((n : Nat) : Int) ∧ ((n : Nat) : Int) < 2 ^ 63 ∧ [x].length * ((n : Nat) : Int).toNat ≤ line := ⟨trivial, by omega, by unfold line at h; omega, by rw [Int.toNat_natCast]; simpa using h⟩
  simp only [binD]
  rw [if_pos e, Int.toNat_natCast, rep_map]
theorem b_repT {x : D} {n : Nat} (h : 1 ≤ n ∧ n ≤ 1000) : binD .mul (.tup [x]) (.int (n : Nat)) = .ok (.tup (List.replicate n x)) := by
  have e : True ∧ [x].isEmpty = false ∧ (1 : Int) ≤ ((n : Nat) : Int) ∧ ((n : Nat) : Int) ≤ 1000 ∧ [x].length ≤ 1000 := ⟨trivial, rfl, by omega, by omega, by simp⟩
  simp only [binD]
  rw [if_pos e, Int.toNat_natCast, rep_map]
/-! built-in functions -/
theorem f_lenL {xs : List D} : bfn .len [.lst xs] = .ok (.int (xs.length : Nat)) := by rfl
theorem f_lenT {xs : List D} : bfn .len [.tup xs] = .ok (.int (xs.length : Nat)) := by rfl
theorem f_abs {i : Int} : bfn .abs [.int i] = .ok (.int (if i < 0 then -i else i)) := by rfl
theorem f_int {i : Int} : bfn .int [.int i] = .ok (.int i) := by rfl
theorem f_intB {b : Bool} : bfn .int [.bl b] = .ok (.int (if b then 1 else 0)) := by rfl
theorem f_bool {b : Bool} : bfn .bool [.bl b] = .ok (.bl b) := by rfl
theorem f_listL {xs : List D} : bfn .list [.lst xs] = .ok (.lst xs) := by rfl
theorem f_listT {xs : List D} : bfn .list [.tup xs] = .ok (.lst xs) := by rfl
theorem f_listD {ks vs : List D} : bfn .list [.dic ks vs] = .ok (.lst ks) := by rfl
theorem f_tupL {xs : List D} : bfn .tuple [.lst xs] = .ok (.tup xs) := by rfl
theorem f_tupT {xs : List D} : bfn .tuple [.tup xs] = .ok (.tup xs) := by rfl
theorem bls_map {α : Type} (f : α → Bool) : ∀ l : List α, blsD (l.map fun a => .bl (f a)) = .ok (l.map f)
  | [] => rfl
  | a :: l => by
    show (asBl (.bl (f a)) >>= fun x => blsD (l.map fun a => .bl (f a)) >>= fun r => .ok (x :: r)) = _
    rw [bls_map f l]; rfl
theorem ints_map {α : Type} (f : α → Int) : ∀ l : List α, intsD (l.map fun a => .int (f a)) = .ok (l.map f)
  | [] => rfl
  | a :: l => by
    show (asInt (.int (f a)) >>= fun x => intsD (l.map fun a => .int (f a)) >>= fun r => .ok (x :: r)) = _
    rw [ints_map f l]; rfl
theorem f_all {α : Type} {f : α → Bool} {l : List α} : bfn .all [.lst (l.map fun a => .bl (f a))] = .ok (.bl (l.all f)) := by
  simp only [bfn]
  rw [bls_map f l, bOk, Res.pure_eq, List.all_map]; rfl
theorem f_any {α : Type} {f : α → Bool} {l : List α} : bfn .any [.lst (l.map fun a => .bl (f a))] = .ok (.bl (l.any f)) := by
  simp only [bfn]
  rw [bls_map f l, bOk, Res.pure_eq, List.any_map]; rfl
theorem f_sum {α : Type} {f : α → Int} {l : List α} : bfn .sum [.lst (l.map fun a => .int (f a))] = .ok (.int (l.map f).sum) := by
  simp only [bfn]
  rw [ints_map f l, bOk, Res.pure_eq]
theorem f_sumT {α : Type} {f : α → Int} {l : List α} : bfn .sum [.tup (l.map fun a => .int (f a))] = .ok (.int (l.map f).sum) := by
  simp only [bfn]
  rw [ints_map f l]; rfl
theorem f_max2 {i j : Int} : bfn .max2 [.int i, .int j] = .ok (.int (max i j)) := by
  show Res.ok (D.int (if j > i then j else i)) = _
  congr 2
  split <;> omega
theorem f_min2 {i j : Int} : bfn .min2 [.int i, .int j] = .ok (.int (min i j)) := by
  show Res.ok (D.int (if j < i then j else i)) = _
  congr 2
  split <;> omega
theorem i_int {i : Int} : isiD .int (.int i) = .ok true := by rfl
theorem i_intB {b : Bool} : isiD .int (.bl b) = .ok true := by rfl
theorem i_intN : isiD .int .non = .ok false := by rfl
theorem i_intS {x : Str} : isiD .int (.str x) = .ok false := by rfl
theorem i_intT {xs : List D} : isiD .int (.tup xs) = .ok false := by rfl
theorem i_intL {xs : List D} : isiD .int (.lst xs) = .ok false := by rfl
theorem i_boolI {i : Int} : isiD .bool (.int i) = .ok false := by rfl
theorem i_bool {b : Bool} : isiD .bool (.bl b) = .ok true := by rfl
theorem i_boolN : isiD .bool .non = .ok false := by rfl
theorem i_boolS {x : Str} : isiD .bool (.str x) = .ok false := by rfl
theorem i_boolT {xs : List D} : isiD .bool (.tup xs) = .ok false := by rfl
theorem i_boolL {xs : List D} : isiD .bool (.lst xs) = .ok false := by rfl
theorem i_strI {i : Int} : isiD .str (.int i) = .ok false := by rfl
theorem i_strB {b : Bool} : isiD .str (.bl b) = .ok false := by rfl
theorem i_strN : isiD .str .non = .ok false := by rfl
theorem i_str {x : Str} : isiD .str (.str x) = .ok true := by rfl
theorem i_strT {xs : List D} : isiD .str (.tup xs) = .ok false := by rfl
theorem i_strL {xs : List D} : isiD .str (.lst xs) = .ok false := by rfl
theorem i_tupI {i : Int} : isiD .tuple (.int i) = .ok false := by rfl
theorem i_tupB {b : Bool} : isiD .tuple (.bl b) = .ok false := by rfl
theorem i_tupN : isiD .tuple .non = .ok false := by rfl
theorem i_tupS {x : Str} : isiD .tuple (.str x) = .ok false := by rfl
theorem i_tup {xs : List D} : isiD .tuple (.tup xs) = .ok true := by rfl
theorem i_tupL {xs : List D} : isiD .tuple (.lst xs) = .ok false := by rfl
theorem i_lstI {i : Int} : isiD .list (.int i) = .ok false := by rfl
theorem i_lstB {b : Bool} : isiD .list (.bl b) = .ok false := by rfl
theorem i_lstN : isiD .list .non = .ok false := by rfl
theorem i_lstS {x : Str} : isiD .list (.str x) = .ok false := by rfl
theorem i_lstT {xs : List D} : isiD .list (.tup xs) = .ok false := by rfl
theorem i_lst {xs : List D} : isiD .list (.lst xs) = .ok true := by rfl
/-! items -/
theorem st_rng {f : Nat → D} {n k : Nat} (h : k < n) : subD (.tup ((List.range n).map f)) (.int ((k : Nat) : Int)) = .ok (f k) := sub_tup (by rw [List.getElem?_map, List.getElem?_range h]; rfl)
theorem sl_rng {f : Nat → D} {n k : Nat} (h : k < n) : subD (.lst ((List.range n).map f)) (.int ((k : Nat) : Int)) = .ok (f k) := sub_lst (by rw [List.getElem?_map, List.getElem?_range h]; rfl)
/-! what a loop walks -/
theorem s_lst {xs : List D} : srcI .seq [.lst xs] = .ok xs := by rfl
theorem s_tup {xs : List D} : srcI .seq [.tup xs] = .ok xs := by rfl
theorem s_keys {ks vs : List D} : srcI .keys [.dic ks vs] = .ok ks := by rfl
theorem s_rng {n : Nat} (h : n ≤ line) : srcI .rng1 [.int ((n : Nat) : Int)] = .ok ((List.range n).map fun k => .int ((k : Nat) : Int)) := rng_nat n h
/-- the comprehension over a list that tells the items; each item is known to be one -/
def lcM {α β : Type} (l : List α) (f : (a : α) → a ∈ l → Res (Option β)) : Res (List β) := lcP (fun x : { a // a ∈ l } => f x.1 x.2) l.attach
theorem lcM_const {α β : Type} {f : α → Res (Option β)} {l : List α} : lcM l (fun a _ => f a) = lcP f l := by
  have h := lcP_map f (fun x : { a // a ∈ l } => x.1) l.attach
  rw [show l.attach.map (fun x : { a // a ∈ l } => x.1) = l from List.attach_map_subtype_val l] at h
  exact h.symm
theorem lcM_of {α β : Type} {g : α → D} {f : D → Res (Option β)} {l : List α} : lcP f (l.map g) = lcM l (fun k _ => f (g k)) := by
  rw [lcM_const, lcP_map f g]
/-- the comprehension over a range -/
def lcR {β : Type} (n : Nat) (f : (a : Nat) → a < n → Res (Option β)) : Res (List β) := lcM (List.range n) fun a h => f a (List.mem_range.mp h)
theorem lcR_const {β : Type} {f : Nat → Res (Option β)} {n : Nat} : lcR n (fun a _ => f a) = lcP f (List.range n) := lcM_const
theorem lcM_rng {β : Type} {n : Nat} {f : (a : Nat) → a ∈ List.range n → Res (Option β)} : lcM (List.range n) f = lcR n (fun a h => f a (List.mem_range.mpr h)) := by rfl
theorem lcR_some {β : Type} {g : Nat → β} {n : Nat} : lcR n (fun a _ => Res.ok (some (g a))) = .ok ((List.range n).map g) := by rw [lcR_const, lcP_some]
theorem lcR_filter {β : Type} {p : Nat → Bool} {g : Nat → β} {n : Nat} : lcR n (fun a _ => if p a = true then Res.ok (some (g a)) else Res.ok none) = .ok (((List.range n).filter p).map g) := by rw [lcR_const, lcP_filter]
theorem lcM_some {α β : Type} {g : α → β} {l : List α} : lcM l (fun a _ => Res.ok (some (g a))) = .ok (l.map g) := by rw [lcM_const, lcP_some]
theorem lcM_filter {α β : Type} {p : α → Bool} {g : α → β} {l : List α} : lcM l (fun a _ => if p a = true then Res.ok (some (g a)) else Res.ok none) = .ok ((l.filter p).map g) := by rw [lcM_const, lcP_filter]
/-- turns that tell some each -/
theorem lcC_map {α β γ : Type} (f : β → Res (List γ)) (g : α → β) : ∀ l : List α, lcC f (l.map g) = lcC (fun a => f (g a)) l
  | [] => rfl
  | a :: l => by unfold List.map lcC; rw [lcC_map f g l]
theorem lcC_okk {α β : Type} (g : α → List β) : ∀ l : List α, lcC (fun a => Res.ok (g a)) l = .ok (l.flatMap g)
  | [] => rfl
  | a :: l => by unfold lcC; rw [lcC_okk g l]; rfl
def lcCM {α β : Type} (l : List α) (f : (a : α) → a ∈ l → Res (List β)) : Res (List β) := lcC (fun x : { a // a ∈ l } => f x.1 x.2) l.attach
theorem lcCM_const {α β : Type} {f : α → Res (List β)} {l : List α} : lcCM l (fun a _ => f a) = lcC f l := by
  have h := lcC_map f (fun x : { a // a ∈ l } => x.1) l.attach
  rw [show l.attach.map (fun x : { a // a ∈ l } => x.1) = l from List.attach_map_subtype_val l] at h
  exact h.symm
theorem lcCM_of {α β : Type} {g : α → D} {f : D → Res (List β)} {l : List α} : lcC f (l.map g) = lcCM l (fun k _ => f (g k)) := by
  rw [lcCM_const, lcC_map f g]
def lcCR {β : Type} (n : Nat) (f : (a : Nat) → a < n → Res (List β)) : Res (List β) := lcCM (List.range n) fun a h => f a (List.mem_range.mp h)
theorem lcCM_rng {β : Type} {n : Nat} {f : (a : Nat) → a ∈ List.range n → Res (List β)} : lcCM (List.range n) f = lcCR n (fun a h => f a (List.mem_range.mpr h)) := by rfl
theorem lcCM_ok {α β : Type} {g : α → List β} {l : List α} : lcCM l (fun a _ => Res.ok (g a)) = .ok (l.flatMap g) := by rw [lcCM_const, lcC_okk]
theorem lcCR_ok {β : Type} {g : Nat → List β} {n : Nat} : lcCR n (fun a _ => Res.ok (g a)) = .ok ((List.range n).flatMap g) := lcCM_ok
theorem capD_ok {l : List D} (h : l.length ≤ line) : capD l = .ok (.lst l) := by unfold capD; rw [if_pos h]
theorem lcP_nil {α β : Type} {f : α → Res (Option β)} : lcP f [] = .ok [] := by rfl
theorem lcP_cons {α β : Type} {f : α → Res (Option β)} {a : α} {l : List α} : lcP f (a :: l) = (f a >>= fun o => lcP f l >>= fun r => match o with | some y => .ok (y :: r) | none => .ok r) := by rfl
theorem m_some {α : Type} {y : α} {r : List α} : (match some y with | some y => Res.ok (y :: r) | none => Res.ok r) = .ok (y :: r) := by rfl
theorem m_none {α : Type} {r : List α} : (match (none : Option α) with | some y => Res.ok (y :: r) | none => Res.ok r) = .ok r := by rfl
end Vi

/-! Vi, part 25: equal data; what the laws draw and compare with. -/
namespace Vi
open PySem

/-- a way to tell things by data: like things, like data -/
structure EqOk {α : Type} (e : α → D) (n : Nat) : Prop where
  ex : ∃ p : α → PyData, (∀ a, toP (e a) = some (p a)) ∧ (∀ a, (p a).canLay0 = true ∧ (p a).depth ≤ n) ∧ ∀ a b, PyData.eqv (p a) (p b) = true ↔ a = b
theorem EqOk.int : EqOk D.int 0 := ⟨PyData.int, fun _ => rfl, fun _ => ⟨rfl, by simp [PyData.depth]⟩, fun a b => by simp [PyData.eqv]⟩
theorem EqOk.bl : EqOk D.bl 0 := ⟨PyData.bool, fun _ => rfl, fun _ => ⟨rfl, by simp [PyData.depth]⟩, fun a b => by simp [PyData.eqv]⟩
theorem EqOk.nat : EqOk (fun k : Nat => D.int (k : Nat)) 0 := ⟨fun k => PyData.int (k : Nat), fun _ => rfl, fun _ => ⟨rfl, by simp [PyData.depth]⟩, fun a b => by simp [PyData.eqv]; omega⟩
section
variable {α β : Type} {e : α → D} {p : α → PyData}
theorem toPs_map (h : ∀ a, toP (e a) = some (p a)) : ∀ l : List α, toPs (l.map e) = some (l.map p)
  | [] => rfl
  | a :: l => by simp only [List.map_cons, toPs, h a, toPs_map h l]
theorem lay_map {n : Nat} (h : ∀ a, (p a).canLay0 = true ∧ (p a).depth ≤ n) : ∀ l : List α, PyData.canLayAll0 (l.map p) = true ∧ PyData.depthAll (l.map p) ≤ n
  | [] => ⟨rfl, Nat.zero_le _⟩
  | a :: l => by
    obtain ⟨h1, h2⟩ := h a
    obtain ⟨h3, h4⟩ := lay_map h l
    simp only [List.map_cons, PyData.canLayAll0, PyData.depthAll, h1, h3, Bool.and_self, true_and]
    omega
theorem eqv_map (h : ∀ a b, PyData.eqv (p a) (p b) = true ↔ a = b) : ∀ l m : List α, PyData.eqvAll (l.map p) (m.map p) = true ↔ l = m
  | [], [] => by simp [PyData.eqvAll]
  | [], b :: m => by simp [PyData.eqvAll]
  | a :: l, [] => by simp [PyData.eqvAll]
  | a :: l, b :: m => by simp only [List.map_cons, PyData.eqvAll, Bool.and_eq_true, h a b, eqv_map h l m, List.cons.injEq]
theorem EqOk.lst {n : Nat} (h : EqOk e n) : EqOk (fun l : List α => D.lst (l.map e)) (n + 1) := by
  obtain ⟨p, h1, h2, h3⟩ := h.ex
  refine ⟨fun l => .list (l.map p), fun l => by simp only [toP, toPs_map h1, Option.map_some], fun l => ?_, fun l m => by simp only [PyData.eqv, eqv_map h3]⟩
  obtain ⟨a, b⟩ := lay_map h2 l
  exact ⟨by simpa only [PyData.canLay0] using a, by simp only [PyData.depth]; omega⟩
theorem EqOk.tup {n : Nat} (h : EqOk e n) : EqOk (fun l : List α => D.tup (l.map e)) (n + 1) := by
  obtain ⟨p, h1, h2, h3⟩ := h.ex
  refine ⟨fun l => .tuple (l.map p), fun l => by simp only [toP, toPs_map h1, Option.map_some], fun l => ?_, fun l m => by simp only [PyData.eqv, eqv_map h3]⟩
  obtain ⟨a, b⟩ := lay_map h2 l
  exact ⟨by simpa only [PyData.canLay0] using a, by simp only [PyData.depth]; omega⟩
theorem EqOk.pair {f : β → D} {n m : Nat} (h : EqOk e n) (g : EqOk f m) : EqOk (fun q : α × β => D.tup [e q.1, f q.2]) (max n m + 1) := by
  obtain ⟨p, h1, h2, h3⟩ := h.ex
  obtain ⟨p', g1, g2, g3⟩ := g.ex
  refine ⟨fun q => .tuple [p q.1, p' q.2], fun q => by simp only [toP, toPs, h1, g1, Option.map_some], fun q => ?_, fun q r => ?_⟩
  · have a := h2 q.1
    have b := g2 q.2
    refine ⟨by simp only [PyData.canLay0, PyData.canLayAll0, a.1, b.1, Bool.and_self], ?_⟩
    simp only [PyData.depth, PyData.depthAll]
    omega
  · simp only [PyData.eqv, PyData.eqvAll, Bool.and_true, Bool.and_eq_true, h3, g3]
    exact Prod.ext_iff.symm
theorem EqOk.eq [DecidableEq α] {n : Nat} (h : EqOk e n) (hn : n ≤ 64) (a b : α) : eqD (e a) (e b) = .ok (decide (a = b)) := by
  obtain ⟨p, h1, h2, h3⟩ := h.ex
  have sh : ∀ a, SeqAt.shaped (p a) = true := fun a => by
    unfold SeqAt.shaped
    rw [(h2 a).1, decide_eq_true (Nat.le_trans (h2 a).2 hn)]; rfl
  unfold eqD
  rw [h1, h1]
  dsimp only
  rw [if_pos ⟨sh a, sh b⟩]
  congr 1
  by_cases c : a = b
  · rw [decide_eq_true c, (h3 a b).mpr c]
  · rw [decide_eq_false c]
    cases k : PyData.eqv (p a) (p b) with
    | true => exact absurd ((h3 a b).mp k) c
    | false => rfl
theorem EqOk.isin [DecidableEq α] {n : Nat} (h : EqOk e n) (hn : n + 1 ≤ 64) (a : α) (l : List α) : inD (e a) (l.map e) = .ok (decide (a ∈ l)) := by
  obtain ⟨p, h1, h2, h3⟩ := h.ex
  obtain ⟨b1, b2⟩ := lay_map h2 l
  have s1 : SeqAt.shaped (p a) = true := by
    unfold SeqAt.shaped
    rw [(h2 a).1, decide_eq_true (Nat.le_trans (h2 a).2 (by omega))]; rfl
  have s2 : SeqAt.shaped (.list (l.map p)) = true := by
    unfold SeqAt.shaped
    simp only [PyData.canLay0, PyData.depth, b1, Bool.true_and]
    exact decide_eq_true (by omega)
  unfold inD
  rw [h1, toPs_map h1]
  dsimp only
  rw [if_pos ⟨s1, s2⟩]
  congr 1
  rw [List.any_map]
  by_cases c : a ∈ l
  · rw [decide_eq_true c]
    exact List.any_eq_true.mpr ⟨a, c, (h3 a a).mpr rfl⟩
  · rw [decide_eq_false c, List.any_eq_false]
    intro b hb k
    exact c ((h3 b a).mp k ▸ hb)
end
theorem e_int {i j : Int} : eqD (.int i) (.int j) = .ok (decide (i = j)) := EqOk.int.eq (by decide) i j -- vi
theorem e_bl {i j : Bool} : eqD (.bl i) (.bl j) = .ok (decide (i = j)) := EqOk.bl.eq (by decide) i j -- vi
/-- plain data so deep -/
def gd : Nat → D → Bool
  | _, .non => true
  | _, .bl _ => true
  | _, .int _ => true
  | _, .str x => PyData.strOk x
  | n + 1, .tup xs => xs.all (gd n) && decide (xs.length ≤ line)
  | n + 1, .lst xs => xs.all (gd n) && decide (xs.length ≤ line)
  | _, _ => false
theorem gds_toP {n : Nat} (ih : ∀ d, gd n d = true → ∃ p, toP d = some p ∧ p.canLay0 = true ∧ p.depth ≤ n) : ∀ xs : List D, xs.all (gd n) = true → ∃ ps, toPs xs = some ps ∧ PyData.canLayAll0 ps = true ∧ PyData.depthAll ps ≤ n
  | [], _ => ⟨[], rfl, rfl, Nat.zero_le _⟩
  | x :: xs, h => by
    rw [List.all_cons, Bool.and_eq_true] at h
    obtain ⟨p, p1, p2, p3⟩ := ih x h.1
    obtain ⟨ps, q1, q2, q3⟩ := gds_toP ih xs h.2
    exact ⟨p :: ps, by simp only [toPs, p1, q1], by simp only [PyData.canLayAll0, p2, q2, Bool.and_self], by simp only [PyData.depthAll]; omega⟩
theorem gd_toP : ∀ (n : Nat) (d : D), gd n d = true → ∃ p, toP d = some p ∧ p.canLay0 = true ∧ p.depth ≤ n
  | n, .non, _ => ⟨.none, rfl, rfl, by simp [PyData.depth]⟩
  | n, .bl b, _ => ⟨.bool b, rfl, rfl, by simp [PyData.depth]⟩
  | n, .int i, _ => ⟨.int i, rfl, rfl, by simp [PyData.depth]⟩
  | n, .str x, h => ⟨.str x, rfl, by simpa [PyData.canLay0, gd] using h, by simp [PyData.depth]⟩
  | 0, .tup xs, h => by simp [gd] at h
  | 0, .lst xs, h => by simp [gd] at h
  | n + 1, .tup xs, h => by
    simp only [gd, Bool.and_eq_true] at h
    obtain ⟨ps, q1, q2, q3⟩ := gds_toP (gd_toP n) xs h.1
    exact ⟨.tuple ps, by simp only [toP, q1, Option.map_some], by simpa only [PyData.canLay0] using q2, by simp only [PyData.depth]; omega⟩
  | n + 1, .lst xs, h => by
    simp only [gd, Bool.and_eq_true] at h
    obtain ⟨ps, q1, q2, q3⟩ := gds_toP (gd_toP n) xs h.1
    exact ⟨.list ps, by simp only [toP, q1, Option.map_some], by simpa only [PyData.canLay0] using q2, by simp only [PyData.depth]; omega⟩
  | n, .dic _ _, h => by cases n <;> simp [gd] at h
  | n, .set _, h => by cases n <;> simp [gd] at h
  | n, .obj _ _, h => by cases n <;> simp [gd] at h
  | n, .clo _ _, h => by cases n <;> simp [gd] at h
theorem gd_eq {n : Nat} {a b : D} (ha : gd n a = true) (hb : gd n b = true) (hn : n ≤ 64) : ∃ p q, toP a = some p ∧ toP b = some q ∧ eqD a b = .ok (PyData.eqv p q) := by
  obtain ⟨p, p1, p2, p3⟩ := gd_toP n a ha
  obtain ⟨q, q1, q2, q3⟩ := gd_toP n b hb
  refine ⟨p, q, p1, q1, ?_⟩
  have sh : ∀ r : PyData, r.canLay0 = true → r.depth ≤ n → SeqAt.shaped r = true := fun r h1 h2 => by
    unfold SeqAt.shaped
    rw [h1, decide_eq_true (Nat.le_trans h2 hn)]; rfl
  unfold eqD
  rw [p1, q1]
  dsimp only
  rw [if_pos ⟨sh p p2 p3, sh q q2 q3⟩]
/-- is it an empty list -/
theorem e_nilL {n : Nat} {xs : List D} (h : gd n (.lst xs) = true) (hn : n ≤ 64) : eqD (.lst xs) (.lst []) = .ok xs.isEmpty := by
  cases n with
  | zero => simp [gd] at h
  | succ n =>
    obtain ⟨p, q, h1, h2, h3⟩ := gd_eq h (b := .lst []) (by simp [gd]) hn
    rw [h3]
    cases h2
    simp only [toP, Option.map_eq_some_iff] at h1
    obtain ⟨ps, h4, rfl⟩ := h1
    have := toPs_length h4
    cases ps <;> cases xs <;> simp_all [PyData.eqv, PyData.eqvAll]
theorem e_nilT {n : Nat} {xs : List D} (h : gd n (.tup xs) = true) (hn : n ≤ 64) : eqD (.tup xs) (.tup []) = .ok xs.isEmpty := by
  cases n with
  | zero => simp [gd] at h
  | succ n =>
    obtain ⟨p, q, h1, h2, h3⟩ := gd_eq h (b := .tup []) (by simp [gd]) hn
    rw [h3]
    cases h2
    simp only [toP, Option.map_eq_some_iff] at h1
    obtain ⟨ps, h4, rfl⟩ := h1
    have := toPs_length h4
    cases ps <;> cases xs <;> simp_all [PyData.eqv, PyData.eqvAll]
theorem gd_map {α : Type} {n : Nat} {f : α → D} {l : List α} (h : ∀ a ∈ l, gd n (f a) = true) : (l.map f).all (gd n) = true := by
  rw [List.all_map]
  exact List.all_eq_true.mpr h
/-- a list of ones that tells whether some fit -/
theorem e_ones {α : Type} {l : List α} : eqD (.lst (l.map fun _ => .int 1)) (.lst []) = .ok l.isEmpty := by -- vi
  have := (EqOk.int.lst).eq (by decide) (l.map fun _ => (1 : Int)) []
  rw [List.map_map] at this
  refine (show eqD (.lst (l.map fun _ => .int 1)) (.lst []) = _ from this).trans ?_
  cases l <;> rfl
theorem filter_empty {α : Type} {p : α → Bool} {l : List α} : (l.filter p).isEmpty = l.all fun a => !p a := by
  induction l with
  | nil => rfl
  | cons a l ih => cases h : p a <;> simp [h, ih]
theorem e_pow : binD .pow (.int 10) (.int 18) = .ok (.int 1000000000000000000) := by rfl -- vi
theorem sb_small {i : Int} (h : -18446744073709551616 < i ∧ i < 18446744073709551616) : smallB i = true := by -- vi
  unfold smallB
  rw [decide_eq_true (show -(2 ^ 64) < i by omega), decide_eq_true (show i < 2 ^ 64 by omega)]; rfl

variable {P : Tb} {G : List D} {Q : Flow × En → Prop} {en : En} {b : Blk}
theorem xThen {c : Ex} {a a2 : Blk} (hp : pureE c = true) (h : pv P G c en = .ok (.bl true)) (q : wp (exB P G a en) (aft (exB P G b) Q)) : wp (exB P G (.cons (.ife c a a2) b) en) Q :=
  xIf (wpE hp h ⟨true, rfl, fun _ => q, fun z => (nomatch z)⟩)
theorem xElse {c : Ex} {a a2 : Blk} (hp : pureE c = true) (h : pv P G c en = .ok (.bl false)) (q : wp (exB P G a2 en) (aft (exB P G b) Q)) : wp (exB P G (.cons (.ife c a a2) b) en) Q :=
  xIf (wpE hp h ⟨false, rfl, fun z => (nomatch z), fun _ => q⟩)
theorem xBoth {c : Ex} {a a2 : Blk} {t : Bool} (hp : pureE c = true) (h : pv P G c en = .ok (.bl t)) (q1 : t = true → wp (exB P G a en) (aft (exB P G b) Q)) (q2 : t = false → wp (exB P G a2 en) (aft (exB P G b) Q)) : wp (exB P G (.cons (.ife c a a2) b) en) Q :=
  xIf (wpE hp h ⟨t, rfl, q1, q2⟩)

/-! what the laws compare with -/
def fSame (i : Nat) : Fn := ⟨[false, false], .dat, 3, (.cons (.ife (.cmp .is (.var 1) .non) (.cons (.ret (.cmp .is (.var 0) .non)) .nil) .nil) (.cons (.ife (.isi (.var 1) .bool) (.cons (.ret (.and (.isi (.var 0) .bool) (.cmp .eq (.var 0) (.var 1)))) .nil) .nil) (.cons (.ife (.isi (.var 1) .int) (.cons (.ret (.and (.isi (.var 0) .int) (.and (.not (.isi (.var 0) .bool)) (.cmp .eq (.var 0) (.var 1))))) .nil) .nil) (.cons (.ife (.isi (.var 1) .str) (.cons (.ret (.and (.isi (.var 0) .str) (.cmp .eq (.var 0) (.var 1)))) .nil) .nil) (.cons (.ife (.or (.and (.isi (.var 1) .list) (.not (.isi (.var 0) .list))) (.and (.isi (.var 1) .tuple) (.not (.isi (.var 0) .tuple)))) (.cons (.ret (.bl false)) .nil) .nil) (.cons (.ret (.and (.cmp .eq (.blt .len (.cons (.var 0) .nil)) (.blt .len (.cons (.var 1) .nil))) (.cmp .eq (.lc [2] (.v 2) .rng1 (.cons (.blt .len (.cons (.var 1) .nil)) .nil) (.cons (.not (.call i (.cons (.sub (.var 0) (.var 2)) (.cons (.sub (.var 1) (.var 2)) .nil)))) .nil) (.int 1)) (.lst .nil)))) .nil))))))⟩
theorem self_eq {n : Nat} {d : D} (h : gd n d = true) (hn : n ≤ 64) (a : ∀ xs, d ≠ .tup xs) (l : ∀ xs, d ≠ .lst xs) : eqD d d = .ok true := by
  obtain ⟨p, q, h1, h2, h3⟩ := gd_eq h h hn
  rw [h3]
  rw [h1] at h2
  cases h2
  cases d <;> first | (exact absurd rfl (a _)) | (exact absurd rfl (l _)) | (cases h1; simp [PyData.eqv]; done) | (cases h1; done)
theorem as_rng (xs : List D) : ∃ (m : Nat) (f : Nat → D), xs = (List.range m).map f := ⟨xs.length, fun j => xs.getD j .non, by
  refine List.ext_getElem (by simp) fun j h1 h2 => ?_
  rw [List.getElem_map, List.getElem_range, List.getD_eq_getElem?_getD, List.getElem?_eq_getElem h1]; rfl⟩
theorem e_nil0 : eqD (.lst []) (.lst []) = .ok true := by rfl -- vi
theorem lcR_none {β : Type} {n : Nat} : lcR n (fun _ _ => (Res.ok (none : Option β))) = .ok [] := by
  rw [lcR_const]
  induction List.range n with
  | nil => rfl
  | cons a l ih => unfold lcP; rw [ih]; rfl
local macro_rules | `(tactic| simp! [$ls,*]) => `(tactic| simp +contextual (disch := first | assumption | omega | (simp only [List.length_map, List.length_range, List.length_cons, List.length_nil, List.length_append, List.length_replicate]; first | assumption | omega)) only [bOk, varD_fz, bvarD_ow, bvarD_od, gS0, gSs, p_var, p_bvar, p_int, p_str, p_non, p_bl, p_nop, p_dnew, p_gc, p_tup, p_lst, p_bin, p_neg, p_not, p_cmp, p_chain, p_and, p_or, p_ite, p_call, p_blt, p_isi, p_sub, p_dsub, p_fld, p_isc, p_make, p_meth, p_om2, p_prim, p_lcm, fld_0, fld_1, fld_2, fld_3, isc_ok, obj_ok, p_mdef, p_kmax, p_asked, p_lk, odD_od, mask0, mask_c, ms_fz, ms_ow, ms_od, ms_no, p_trev, t_rev, p_sset, p_slice, p_lc, p_lc2, p_nil, p_cons, bind_v, bind_t2, bind_t3, bind_t4, wipe0, wipeC, setZ, setC, asInt_i, asBl_b, ofO_s, allT_0, allT_1, if_t, if_f, if_and, if_or, bind_if, c_lt, c_gt, c_le, c_ge, c_eq, c_ne, c_is, c_isnot, c_isB, c_isnotB, c_inT, c_inL, c_ninT, c_ninL, n_int, n_bl, n_str, n_tup, n_lst, n_non, b_add, b_sub, b_mul, b_mod, b_fdiv, b_lst, b_tup, b_rep, b_repT, f_lenL, f_lenT, f_abs, f_int, f_intB, f_bool, f_listL, f_listT, f_listD, f_tupL, f_tupT, f_all, f_any, f_sum, f_sumT, f_max2, f_min2, i_int, i_intB, i_intN, i_intS, i_intT, i_intL, i_boolI, i_bool, i_boolN, i_boolS, i_boolT, i_boolL, i_strI, i_strB, i_strN, i_str, i_strT, i_strL, i_tupI, i_tupB, i_tupN, i_tupS, i_tup, i_tupL, i_lstI, i_lstB, i_lstN, i_lstS, i_lstT, i_lst, st_rng, sl_rng, s_lst, s_tup, s_keys, s_rng, lcM_of, lcM_rng, lcR_some, lcR_filter, lcM_some, lcM_filter, lcCM_of, lcCM_rng, lcCM_ok, lcCR_ok, lcP_nil, lcP_cons, m_some, m_none, e_int, e_bl, e_ones, e_pow, sb_small, e_nil0, List.length_map, List.length_range, List.map_cons, List.map_nil, List.length_cons, List.length_nil, List.length_append, Nat.zero_add, List.nil_append, List.cons_append, Bool.not_true, Bool.not_false, Bool.and_true, Bool.true_and, Bool.and_false, Bool.false_and, Bool.or_true, Bool.true_or, Bool.or_false, Bool.false_or, Bool.not_not, sub_t0, sub_t1, sub_t2, sub_t3, sub_l0, sub_l1, sub_l2, sub_l3, decide_true, decide_false, if_true, if_false, ite_self, $ls,*])
theorem same_ok {G : List D} {fns : List Fn} {i : Nat} (hf : fns[i]? = some (fSame i)) : ∀ (n : Nat) (d : D) (k : Nat), gd n d = true → n ≤ k → n ≤ 64 → tab G fns (k + 1) i [.fz d, .fz d] = .ok (.bl true, []) := by
  intro n
  induction n with
  | zero =>
    intro d k h hk hn
    refine fn_eq hf rfl rfl rfl ?_
    show wp (exB _ _ (fSame i).body [.fz d, .fz d, .no]) _
    unfold fSame
    dsimp only
    have q := self_eq h hn
    cases d with
    | non =>
      apply xThen rfl
      · simp! []
      apply xRet; apply wpE rfl
      · simp! []
        rfl
      exact ⟨rfl, by simp⟩
    | bl b =>
      apply xSkip rfl
      · simp! []
      apply xThen rfl
      · simp! []
      apply xRet; apply wpE rfl
      · simp! [q (by simp) (by simp)]
        rfl
      exact ⟨rfl, by simp⟩
    | int b =>
      apply xSkip rfl
      · simp! []
      apply xSkip rfl
      · simp! []
      apply xThen rfl
      · simp! []
      apply xRet; apply wpE rfl
      · simp! [q (by simp) (by simp)]
        rfl
      exact ⟨rfl, by simp⟩
    | str b =>
      apply xSkip rfl
      · simp! []
      apply xSkip rfl
      · simp! []
      apply xSkip rfl
      · simp! []
      apply xThen rfl
      · simp! []
      apply xRet; apply wpE rfl
      · simp! [q (by simp) (by simp)]
        rfl
      exact ⟨rfl, by simp⟩
    | _ => simp [gd] at h
  | succ n ih =>
    intro d k h hk hn
    cases d with
    | non => exact (fun z => z) (by
      refine fn_eq hf rfl rfl rfl ?_
      show wp (exB _ _ (fSame i).body [.fz .non, .fz .non, .no]) _
      unfold fSame
      dsimp only
      apply xThen rfl
      · simp! []
      apply xRet; apply wpE rfl
      · simp! []
        rfl
      exact ⟨rfl, by simp⟩)
    | bl b => exact ih (.bl b) k (by cases n <;> rfl) (by omega) (by omega)
    | int b => exact ih (.int b) k (by cases n <;> rfl) (by omega) (by omega)
    | str b => exact ih (.str b) k (by cases n <;> exact h) (by omega) (by omega)
    | tup xs =>
      simp only [gd, Bool.and_eq_true, decide_eq_true_eq] at h
      obtain ⟨k, rfl⟩ : ∃ m, k = m + 1 := ⟨k - 1, by omega⟩
      obtain ⟨m, f, rfl⟩ := as_rng xs
      have hm : m ≤ line := by simpa using h.2
      have each : ∀ j, j < m → tab G fns (k + 1) i [.fz (f j), .fz (f j)] = .ok (.bl true, []) := fun j hj =>
        ih _ k (List.all_eq_true.mp h.1 _ (List.mem_map.mpr ⟨j, List.mem_range.mpr hj, rfl⟩)) (by omega) (by omega)
      refine fn_eq hf rfl rfl rfl ?_
      show wp (exB _ _ (fSame i).body [.fz (.tup ((List.range m).map f)), .fz (.tup ((List.range m).map f)), .no]) _
      unfold fSame
      dsimp only
      apply xSkip rfl
      · simp! []
      apply xSkip rfl
      · simp! []
      apply xSkip rfl
      · simp! []
      apply xSkip rfl
      · simp! []
      apply xSkip rfl
      · simp! []
      apply xRet; apply wpE rfl
      · simp! [each, lcR_none, e_nil0]
        rfl
      exact ⟨rfl, by simp⟩
    | lst xs =>
      simp only [gd, Bool.and_eq_true, decide_eq_true_eq] at h
      obtain ⟨k, rfl⟩ : ∃ m, k = m + 1 := ⟨k - 1, by omega⟩
      obtain ⟨m, f, rfl⟩ := as_rng xs
      have hm : m ≤ line := by simpa using h.2
      have each : ∀ j, j < m → tab G fns (k + 1) i [.fz (f j), .fz (f j)] = .ok (.bl true, []) := fun j hj =>
        ih _ k (List.all_eq_true.mp h.1 _ (List.mem_map.mpr ⟨j, List.mem_range.mpr hj, rfl⟩)) (by omega) (by omega)
      refine fn_eq hf rfl rfl rfl ?_
      show wp (exB _ _ (fSame i).body [.fz (.lst ((List.range m).map f)), .fz (.lst ((List.range m).map f)), .no]) _
      unfold fSame
      dsimp only
      apply xSkip rfl
      · simp! []
      apply xSkip rfl
      · simp! []
      apply xSkip rfl
      · simp! []
      apply xSkip rfl
      · simp! []
      apply xSkip rfl
      · simp! []
      apply xRet; apply wpE rfl
      · simp! [each, lcR_none, e_nil0]
        rfl
      exact ⟨rfl, by simp⟩
    | _ => simp [gd] at h
end Vi

/-! Vi, part 26: what the laws draw. -/
namespace Vi
open PySem

def fStart : Fn := ⟨[false], .ow, 1, (.cons (.retL 0 (.lst (.cons (.var 0) (.cons (.int 0) (.cons (.int 0) (.cons (.int 7) .nil)))))) .nil)⟩
def fPick : Fn := ⟨[true, false], .dat, 4, (.cons (.ife (.and (.cmp .eq (.sub (.bvar 0) (.int 2)) (.int 0)) (.cmp .lt (.sub (.bvar 0) (.int 1)) (.blt .len (.cons (.sub (.bvar 0) (.int 0)) .nil)))) (.cons (.asg 2 (.blt .abs (.cons (.sub (.sub (.bvar 0) (.int 0)) (.sub (.bvar 0) (.int 1))) .nil))) (.cons (.setI 0 (.int 1) (.bin .add (.sub (.bvar 0) (.int 1)) (.int 1))) (.cons (.ife (.cmp .ge (.var 2) (.bin .pow (.int 10) (.int 18))) (.cons (.setI 0 (.int 2) (.var 2)) .nil) (.cons (.setI 0 (.int 3) (.bin .add (.bin .mod (.blt .int (.cons (.bin .add (.bin .mul (.sub (.bvar 0) (.int 3)) (.int 48271)) (.var 2)) .nil)) (.int 2147483646)) (.int 1))) .nil)) .nil))) .nil) (.cons (.ife (.cmp .gt (.sub (.bvar 0) (.int 2)) (.int 0)) (.cons (.asg 3 (.bin .mod (.blt .int (.cons (.sub (.bvar 0) (.int 2)) .nil)) (.var 1))) (.cons (.setI 0 (.int 2) (.bin .fdiv (.sub (.bvar 0) (.int 2)) (.var 1))) (.cons (.ret (.var 3)) .nil))) .nil) (.cons (.setI 0 (.int 3) (.bin .mod (.blt .int (.cons (.bin .mul (.sub (.bvar 0) (.int 3)) (.int 48271)) .nil)) (.int 2147483647))) (.cons (.ret (.bin .mod (.blt .int (.cons (.bin .add (.bin .fdiv (.sub (.bvar 0) (.int 3)) (.int 5)) (.bin .mod (.blt .int (.cons (.bin .mul (.sub (.bvar 0) (.int 3)) (.sub (.bvar 0) (.int 3))) .nil)) (.int 2147483629))) .nil)) (.var 1))) .nil))))⟩
/-- what stands in a law's state -/
def stD (ns : List Int) (i : Nat) (b s : Int) : List D := [.lst (ns.map .int), .int ((i : Nat) : Int), .int b, .int s]
def StOk (ns : List Int) (st : List D) : Prop := ∃ (i : Nat) (b s : Int), st = stD ns i b s ∧ 0 ≤ b ∧ 0 ≤ s ∧ s < 2147483648
theorem lent_ow {xs ys : List D} {sl : List Slot} {en : En} : lentBack (.ow xs :: sl) en = lentBack (.ow ys :: sl) en := by
  cases en <;> simp only [lentBack]
theorem put0 {a x : D} {xs : List D} : putIx (a :: xs) 0 x = some (x :: xs) := by
  show (L2.ixN (xs.length + 1) 0).map _ = _
  unfold L2.ixN
  rw [if_pos (by omega), if_pos (by omega)]; rfl
theorem put1 {a b x : D} {xs : List D} : putIx (a :: b :: xs) 1 x = some (a :: x :: xs) := by
  show (L2.ixN (xs.length + 1 + 1) 1).map _ = _
  unfold L2.ixN
  rw [if_pos (by omega), if_pos (by omega)]; rfl
theorem put2 {a b c x : D} {xs : List D} : putIx (a :: b :: c :: xs) 2 x = some (a :: b :: x :: xs) := by
  show (L2.ixN (xs.length + 1 + 1 + 1) 2).map _ = _
  unfold L2.ixN
  rw [if_pos (by omega), if_pos (by omega)]; rfl
theorem put3 {a b c d x : D} {xs : List D} : putIx (a :: b :: c :: d :: xs) 3 x = some (a :: b :: c :: x :: xs) := by
  show (L2.ixN (xs.length + 1 + 1 + 1 + 1) 3).map _ = _
  unfold L2.ixN
  rw [if_pos (by omega), if_pos (by omega)]; rfl
local macro_rules | `(tactic| simp! [$ls,*]) => `(tactic| simp +contextual (disch := first | assumption | omega | (simp only [List.length_map, List.length_range, List.length_cons, List.length_nil, List.length_append, List.length_replicate]; first | assumption | omega)) only [bOk, varD_fz, bvarD_ow, bvarD_od, gS0, gSs, p_var, p_bvar, p_int, p_str, p_non, p_bl, p_nop, p_dnew, p_gc, p_tup, p_lst, p_bin, p_neg, p_not, p_cmp, p_chain, p_and, p_or, p_ite, p_call, p_blt, p_isi, p_sub, p_dsub, p_fld, p_isc, p_make, p_meth, p_om2, p_prim, p_lcm, fld_0, fld_1, fld_2, fld_3, isc_ok, obj_ok, p_mdef, p_kmax, p_asked, p_lk, odD_od, mask0, mask_c, ms_fz, ms_ow, ms_od, ms_no, p_trev, t_rev, p_sset, p_slice, p_lc, p_lc2, p_nil, p_cons, bind_v, bind_t2, bind_t3, bind_t4, wipe0, wipeC, setZ, setC, asInt_i, asBl_b, ofO_s, allT_0, allT_1, if_t, if_f, if_and, if_or, bind_if, c_lt, c_gt, c_le, c_ge, c_eq, c_ne, c_is, c_isnot, c_isB, c_isnotB, c_inT, c_inL, c_ninT, c_ninL, n_int, n_bl, n_str, n_tup, n_lst, n_non, b_add, b_sub, b_mul, b_mod, b_fdiv, b_lst, b_tup, b_rep, b_repT, f_lenL, f_lenT, f_abs, f_int, f_intB, f_bool, f_listL, f_listT, f_listD, f_tupL, f_tupT, f_all, f_any, f_sum, f_sumT, f_max2, f_min2, i_int, i_intB, i_intN, i_intS, i_intT, i_intL, i_boolI, i_bool, i_boolN, i_boolS, i_boolT, i_boolL, i_strI, i_strB, i_strN, i_str, i_strT, i_strL, i_tupI, i_tupB, i_tupN, i_tupS, i_tup, i_tupL, i_lstI, i_lstB, i_lstN, i_lstS, i_lstT, i_lst, st_rng, sl_rng, s_lst, s_tup, s_keys, s_rng, lcM_of, lcM_rng, lcR_some, lcR_filter, lcM_some, lcM_filter, lcCM_of, lcCM_rng, lcCM_ok, lcCR_ok, lcP_nil, lcP_cons, m_some, m_none, e_int, e_bl, e_ones, e_pow, sb_small, e_nil0, List.length_map, List.length_range, List.map_cons, List.map_nil, List.length_cons, List.length_nil, List.length_append, Nat.zero_add, List.nil_append, List.cons_append, Bool.not_true, Bool.not_false, Bool.and_true, Bool.true_and, Bool.and_false, Bool.false_and, Bool.or_true, Bool.true_or, Bool.or_false, Bool.false_or, Bool.not_not, sub_t0, sub_t1, sub_t2, sub_t3, sub_l0, sub_l1, sub_l2, sub_l3, decide_true, decide_false, if_true, if_false, ite_self, $ls,*])
theorem start_ok {G : List D} {fns : List Fn} {i k : Nat} (hf : fns[i]? = some fStart) (ns : List Int) : tab G fns (k + 1) i [.fz (.lst (ns.map .int))] = .ok (.lst (stD ns 0 0 7), []) := by
  refine wp_eq (wp_fn hf rfl ?_)
  show wp (exB _ _ fStart.body [.fz (.lst (ns.map .int))]) _
  unfold fStart
  dsimp only
  apply xRetL; apply wpE rfl
  · simp! []
    rfl
  exact ⟨_, rfl, [], rfl, _, rfl, rfl, rfl⟩
theorem pick_ok {G : List D} {fns : List Fn} {i k : Nat} (hf : fns[i]? = some fPick) {ns : List Int} (hn : ns.length ≤ 63) {st : List D} (hs : StOk ns st) {lim : Int} (h1 : 0 < lim) (h2 : lim < 1073741824) :
    wp (tab G fns (k + 1) i [.ow st, .fz (.int lim)]) fun r => ∃ v st', r = (.int v, [st']) ∧ 0 ≤ v ∧ v < lim ∧ StOk ns st' := by
  obtain ⟨j, b, s, rfl, b0, s0, s1⟩ := hs
  refine wp_fn hf rfl ?_
  show wp (exB _ _ fPick.body [.ow (stD ns j b s), .fz (.int lim), .no, .no]) _
  unfold fPick stD
  dsimp only
  have hsm : ∀ s, smallB s = true ∨ smallB 48271 = true := fun s => .inr (by decide)
  -- what stands behind the first if
  have rest : ∀ (j : Nat) (b s : Int) (x : Slot), 0 ≤ b → 0 ≤ s → s < 2147483648 → wp (exB (tab G fns k) G (.cons (.ife (.cmp .gt (.sub (.bvar 0) (.int 2)) (.int 0)) (.cons (.asg 3 (.bin .mod (.blt .int (.cons (.sub (.bvar 0) (.int 2)) .nil)) (.var 1))) (.cons (.setI 0 (.int 2) (.bin .fdiv (.sub (.bvar 0) (.int 2)) (.var 1))) (.cons (.ret (.var 3)) .nil))) .nil) (.cons (.setI 0 (.int 3) (.bin .mod (.blt .int (.cons (.bin .mul (.sub (.bvar 0) (.int 3)) (.int 48271)) .nil)) (.int 2147483647))) (.cons (.ret (.bin .mod (.blt .int (.cons (.bin .add (.bin .fdiv (.sub (.bvar 0) (.int 3)) (.int 5)) (.bin .mod (.blt .int (.cons (.bin .mul (.sub (.bvar 0) (.int 3)) (.sub (.bvar 0) (.int 3))) .nil)) (.int 2147483629))) .nil)) (.var 1))) .nil)))
      [.ow (stD ns j b s), .fz (.int lim), x, .no]) fun r => ∃ o, lentBack [.ow (stD ns j b s), .fz (.int lim)] r.2 = some o ∧ (∃ d, r.1 = .ret d ∧ ∃ v st', (d, o) = (.int v, [st']) ∧ 0 ≤ v ∧ v < lim ∧ StOk ns st') := by
    intro j b s x b0 s0 s1
    unfold stD
    apply xBoth (t := decide (0 < b)) rfl
    · simp! []
    · intro hb
      apply xAsg; apply wpE rfl
      · simp! []
        rfl
      apply xSet rfl rfl
      · simp! []
        rfl
      · simp! []
        rfl
      · rfl
      · exact put2
      apply xRet; apply wpE rfl
      · simp! []
        rfl
      refine ⟨_, rfl, _, rfl, _, _, rfl, Int.emod_nonneg _ (by omega), Int.emod_lt_of_pos _ h1, j, _, s, rfl, Int.ediv_nonneg b0 (by omega), s0, s1⟩
    · intro hb
      apply xNil
      show wp _ _
      apply xSet rfl rfl
      · have hsm' := hsm s
        simp! []
        rfl
      · simp! []
        rfl
      · rfl
      · exact put3
      have g0 : 0 ≤ s * 48271 % 2147483647 := Int.emod_nonneg _ (by decide)
      have g1 : s * 48271 % 2147483647 < 2147483647 := Int.emod_lt_of_pos _ (by decide)
      generalize s * 48271 % 2147483647 = z at g0 g1
      have gz : smallB z = true ∨ smallB z = true := .inl (sb_small ⟨by omega, by omega⟩)
      apply xRet; apply wpE rfl
      · simp! []
        rfl
      exact ⟨_, rfl, _, rfl, _, _, rfl, Int.emod_nonneg _ (by omega), Int.emod_lt_of_pos _ h1, j, b, z, rfl, b0, g0, by omega⟩
  apply xIf
  apply wpE rfl
  · simp! []
    rfl
  refine ⟨_, rfl, fun ht => ?_, fun ht => ?_⟩
  · simp only [Bool.and_eq_true, decide_eq_true_eq] at ht
    obtain ⟨rfl, hj⟩ := ht
    have hj : j < ns.length := by omega
    have hsm' := hsm s
    have hsub : subD (.lst (ns.map .int)) (.int ((j : Nat) : Int)) = .ok (.int ns[j]) := subl_map _ _ _ hj
    generalize ns[j] = c at hsub
    generalize hL : D.lst (ns.map .int) = L at hsub
    apply xAsg; apply wpE rfl
    · simp! [hsub]
      rfl
    generalize hc : (if c < 0 then -c else c) = c'
    have c0 : 0 ≤ c' := by split at hc <;> omega
    apply xSet rfl rfl
    · simp! []
      rfl
    · simp! []
      rfl
    · rfl
    · exact put1
    show wp (exB _ _ _ [.ow [L, .int (((j + 1 : Nat) : Nat) : Int), .int 0, .int s], .fz (.int lim), .fz (.int c'), .no]) _
    apply xBoth (t := decide (1000000000000000000 ≤ c')) rfl
    · simp! [e_pow]
    · intro _
      apply xSet rfl rfl
      · simp! []
        rfl
      · simp! []
        rfl
      · rfl
      · exact put2
      apply xNil
      show wp _ _
      apply xNil
      show wp _ _
      subst hL
      exact wp_mono (rest (j + 1) c' s _ c0 s0 s1) fun r ⟨o, ho, d, e, q⟩ => ⟨o, lent_ow.trans ho, by rw [e]; exact q⟩
    · intro _
      apply xSet rfl rfl
      · simp! []
        rfl
      · simp! []
        rfl
      · rfl
      · exact put3
      apply xNil
      show wp _ _
      apply xNil
      show wp _ _
      subst hL
      have g0 : 0 ≤ (s * 48271 + c') % 2147483646 := Int.emod_nonneg _ (by decide)
      have g1 : (s * 48271 + c') % 2147483646 < 2147483646 := Int.emod_lt_of_pos _ (by decide)
      exact wp_mono (rest (j + 1) 0 _ _ (by decide) (by omega) (by omega)) fun r ⟨o, ho, d, e, q⟩ => ⟨o, lent_ow.trans ho, by rw [e]; exact q⟩
  · apply xNil
    show wp _ _
    exact wp_mono (rest j b s .no b0 s0 s1) fun r ⟨o, ho, d, e, q⟩ => ⟨o, lent_ow.trans ho, by rw [e]; exact q⟩
end Vi

/-! Vi, part 27: more of what simp goes by. -/
namespace Vi
open PySem
theorem sset_ok {α : Type} {f : α → Int} {l : List α} (h : l.length < 60) : ssetD (.lst (l.map fun a => .int (f a))) = .ok (.lst ((risI (l.map f)).map .int)) := by
  show (intsD _ >>= _) = _
  rw [ints_map f l, bOk, if_pos (by rw [List.length_map]; exact h)]
theorem sset_rng {f : Nat → Int} {n : Nat} (h : n < 60) : ssetD (.lst ((List.range n).map fun a => .int (f a))) = .ok (.lst ((risI ((List.range n).map f)).map .int)) := sset_ok (by simpa using h) -- vi
theorem map_map' {α β γ : Type} {f : β → γ} {g : α → β} {l : List α} : (l.map g).map f = l.map fun a => f (g a) := by rw [List.map_map]; rfl
theorem rng_len (f : Nat → D) (n : Nat) : ((List.range n).map f).length = n := by simp
/-- a row that is looked up by place -/
theorem as_rngI {α : Type} (d : α) (l : List α) : l = (List.range l.length).map fun k => l.getD k d := by
  refine List.ext_getElem (by simp) fun j h1 h2 => ?_
  rw [List.getElem_map, List.getElem_range, List.getD_eq_getElem?_getD, List.getElem?_eq_getElem h1]; rfl
theorem map_rng {α β : Type} (d : α) (f : α → β) (l : List α) : l.map f = (List.range l.length).map fun k => f (l.getD k d) := by
  conv => lhs; rw [as_rngI d l]
  rw [List.map_map]; rfl
/-! sorted -/
theorem toPs_map' {α : Type} {e : α → D} {p : α → PyData} (h : ∀ a, toP (e a) = some (p a)) (l : List α) : toPs (l.map e) = some (l.map p) := toPs_map h l
theorem zip_map' {α β γ : Type} (f : α → β) (g : α → γ) : ∀ l : List α, (l.map f).zip (l.map g) = l.map fun a => (f a, g a)
  | [] => rfl
  | a :: l => by rw [List.map_cons, List.map_cons, List.zip_cons_cons, zip_map' f g l]; rfl
theorem putK_map {α β : Type} {r : β → β → Bool} {q : α → α → Bool} {e : α → β} (h : ∀ a b, r (e a) (e b) = q a b) (x : α) : ∀ l : List α, putK r (e x) (l.map e) = (putK q x l).map e
  | [] => rfl
  | y :: l => by
    simp only [List.map_cons, putK, h]
    split
    · rfl
    · rw [putK_map h x l]; rfl
theorem sortK_map {α β : Type} {r : β → β → Bool} {q : α → α → Bool} {e : α → β} (h : ∀ a b, r (e a) (e b) = q a b) : ∀ l : List α, sortK r (l.map e) = (sortK q l).map e
  | [] => rfl
  | x :: l => by
    show putK r (e x) (sortK r (l.map e)) = _
    rw [sortK_map h l, putK_map h]; rfl
/-- things told by data that sorted takes: by an order of theirs -/
structure SortOk {α : Type} (e : α → D) (lt : α → α → Bool) : Prop where
  ex : ∃ p : α → PyData, (∀ a, toP (e a) = some (p a)) ∧ (∀ a b, sameP (p a) (p b) = true) ∧ ((∀ a, isT1 (p a) = true) ∨ (∀ a, isAt (p a) = true)) ∧ (∀ a, SeqAt.shaped (p a) = true) ∧ ∀ a b, ltP (p a) (p b) = lt a b
theorem SortOk.sort {α : Type} {e : α → D} {lt : α → α → Bool} (h : SortOk e lt) (l : List α) : sortD (l.map e) = some ((sortK (fun a b => !lt b a) l).map e) := by
  obtain ⟨p, h1, h2, h3, h4, h5⟩ := h.ex
  unfold sortD
  rw [toPs_map h1]
  dsimp only
  rw [if_pos]
  · rw [zip_map' p e l, sortK_map (q := fun a b => !lt b a) (e := fun a => (p a, e a)) (fun a b => by dsimp only; rw [h5]), List.map_map]
    rfl
  · unfold okSort
    have a1 : allLike (l.map p) = true := by
      cases l with
      | nil => rfl
      | cons a l =>
        simp only [List.map_cons, allLike, Bool.or_eq_true]
        exact .inl (List.all_eq_true.mpr fun q hq => by
          rw [← List.map_cons] at hq
          obtain ⟨b, _, rfl⟩ := List.mem_map.mp hq
          exact h2 a b)
    have a2 : ((l.map p).all isT1 || (l.map p).all isAt) = true := by
      rw [Bool.or_eq_true]
      rcases h3 with h | h
      · exact .inl (List.all_eq_true.mpr fun q hq => by obtain ⟨b, _, rfl⟩ := List.mem_map.mp hq; exact h b)
      · exact .inr (List.all_eq_true.mpr fun q hq => by obtain ⟨b, _, rfl⟩ := List.mem_map.mp hq; exact h b)
    have a3 : (l.map p).all SeqAt.shaped = true := List.all_eq_true.mpr fun q hq => by obtain ⟨b, _, rfl⟩ := List.mem_map.mp hq; exact h4 b
    rw [a1, a2, a3]; rfl
theorem SortOk.callL {α : Type} {e : α → D} {lt : α → α → Bool} (h : SortOk e lt) (l : List α) : bfn .sorted [.lst (l.map e)] = .ok (.lst ((sortK (fun a b => !lt b a) l).map e)) := by
  simp only [bfn]
  rw [h.sort l]; rfl
theorem SortOk.callT {α : Type} {e : α → D} {lt : α → α → Bool} (h : SortOk e lt) (l : List α) : bfn .sorted [.tup (l.map e)] = .ok (.lst ((sortK (fun a b => !lt b a) l).map e)) := by
  simp only [bfn]
  rw [h.sort l]; rfl
theorem SortOk.int : SortOk D.int (fun i j => decide (i < j)) := ⟨PyData.int, fun _ => rfl, fun _ _ => rfl, .inr fun _ => rfl, fun _ => rfl, fun _ _ => by simp only [ltP]⟩
def lt2 (p q : Int × Int) : Bool := if p.1 = q.1 then decide (p.2 < q.2) else decide (p.1 < q.1)
theorem eqv_int {i j : Int} : PyData.eqv (.int i) (.int j) = decide (i = j) := by
  simp only [PyData.eqv]; rfl
theorem SortOk.two : SortOk (fun p : Int × Int => D.tup [.int p.1, .int p.2]) lt2 := ⟨fun p => .tuple [.int p.1, .int p.2], fun _ => rfl, fun _ _ => rfl, .inl fun _ => rfl, fun _ => by simp [SeqAt.shaped, PyData.canLay0, PyData.canLayAll0, PyData.depth, PyData.depthAll], fun p q => by
  simp only [ltP, ltPs, eqv_int, decide_eq_true_eq, lt2]
  by_cases h : p.1 = q.1 <;> by_cases h2 : p.2 = q.2 <;> simp [h, h2]⟩
def lt3 (p q : Int × Int × Nat) : Bool := if p.1 = q.1 then (if p.2.1 = q.2.1 then decide (p.2.2 < q.2.2) else decide (p.2.1 < q.2.1)) else decide (p.1 < q.1)
theorem SortOk.three : SortOk (fun p : Int × Int × Nat => D.tup [.int p.1, .int p.2.1, .int ((p.2.2 : Nat) : Int)]) lt3 := ⟨fun p => .tuple [.int p.1, .int p.2.1, .int ((p.2.2 : Nat) : Int)], fun _ => rfl, fun _ _ => rfl, .inl fun _ => rfl, fun _ => by simp [SeqAt.shaped, PyData.canLay0, PyData.canLayAll0, PyData.depth, PyData.depthAll], fun p q => by
  simp only [ltP, ltPs, eqv_int, decide_eq_true_eq, lt3]
  by_cases h : p.1 = q.1 <;> by_cases h2 : p.2.1 = q.2.1 <;> by_cases h3 : p.2.2 = q.2.2 <;> simp [h, h2, h3] <;> omega⟩
theorem lt2_iff {p q : Int × Int} : lt2 p q = true ↔ p.1 < q.1 ∨ p.1 = q.1 ∧ p.2 < q.2 := by
  unfold lt2
  split <;> simp <;> omega
theorem lt3_iff {p q : Int × Int × Nat} : lt3 p q = true ↔ p.1 < q.1 ∨ p.1 = q.1 ∧ (p.2.1 < q.2.1 ∨ p.2.1 = q.2.1 ∧ p.2.2 < q.2.2) := by
  unfold lt3
  split
  · split <;> simp <;> omega
  · simp; omega
theorem le2_iff {a b : Int × Int} : (!lt2 b a) = true ↔ ¬ (b.1 < a.1 ∨ b.1 = a.1 ∧ b.2 < a.2) := by rw [Bool.not_eq_true', ← Bool.not_eq_true, lt2_iff]
theorem le3_iff {a b : Int × Int × Nat} : (!lt3 b a) = true ↔ ¬ (b.1 < a.1 ∨ b.1 = a.1 ∧ (b.2.1 < a.2.1 ∨ b.2.1 = a.2.1 ∧ b.2.2 < a.2.2)) := by rw [Bool.not_eq_true', ← Bool.not_eq_true, lt3_iff]
theorem total2 : PySem.W.TotalLe (fun a b => !lt2 b a) := ⟨fun a b c h1 h2 => by
  rw [le2_iff] at h1 h2 ⊢
  omega, fun a b => by
  rw [le2_iff, le2_iff]
  omega⟩
theorem total3 : PySem.W.TotalLe (fun a b => !lt3 b a) := ⟨fun a b c h1 h2 => by
  rw [le3_iff] at h1 h2 ⊢
  omega, fun a b => by
  rw [le3_iff, le3_iff]
  omega⟩
theorem totalI : PySem.W.TotalLe (fun a b : Int => !decide (b < a)) := ⟨fun a b c h1 h2 => by simp at h1 h2 ⊢; omega, fun a b => by simp; omega⟩
/-- a rising row is sorted as it stands -/
theorem sortK_id {α : Type} {le : α → α → Bool} : ∀ {l : List α}, l.Pairwise (fun a b => le a b = true) → sortK le l = l
  | [], _ => rfl
  | x :: l, h => by
    obtain ⟨h1, h2⟩ := List.pairwise_cons.mp h
    show putK le x (sortK le l) = _
    rw [sortK_id h2]
    cases l with
    | nil => rfl
    | cons y l => unfold putK; rw [if_pos (h1 y List.mem_cons_self)]
theorem okb {p q : Prop} [Decidable p] [Decidable q] (h : p ↔ q) : Res.ok (D.bl (decide p)) = Res.ok (D.bl (decide q)) := by
  by_cases c : p
  · rw [decide_eq_true c, decide_eq_true (h.mp c)]
  · rw [decide_eq_false c, decide_eq_false fun z => c (h.mpr z)]
theorem okBl {a b : Bool} (h : a = b) : Res.ok (D.bl a) = Res.ok (D.bl b) := by rw [h]
theorem sl_ints {l : List Int} {k : Nat} (h : k < l.length) : subD (.lst (l.map D.int)) (.int ((k : Nat) : Int)) = .ok (.int (l.getD k 0)) := by -- vi
  rw [subl_map _ _ _ h, List.getD_eq_getElem?_getD, List.getElem?_eq_getElem h]; rfl
theorem sl_last {l : List D} {x : D} : subD (.lst (l ++ [x])) (.int (-1)) = .ok x := sub_last -- vi
theorem putIx_nat {xs : List D} {k : Nat} {d : D} (h : k < xs.length) : putIx xs ((k : Nat) : Int) d = some (xs.set k d) := by
  show (L2.ixN xs.length ((k : Nat) : Int)).map _ = _
  unfold L2.ixN
  rw [if_pos (by omega), if_pos (by omega), Int.toNat_natCast]; rfl
theorem putIx_last {xs : List D} {x d : D} : putIx (xs ++ [x]) (-1) d = some (xs ++ [d]) := by
  show (L2.ixN (xs ++ [x]).length (-1)).map _ = _
  unfold L2.ixN
  rw [if_neg (by omega), if_pos (by simp only [List.length_append, List.length_singleton]; omega)]
  have e : ((-1 : Int) + ((xs ++ [x]).length : Nat)).toNat = xs.length := by simp only [List.length_append, List.length_singleton]; omega
  rw [e]
  simp
theorem set_rng {α : Type} {g : Nat → α} {n k : Nat} {v : α} : ((List.range n).map g).set k v = (List.range n).map fun j => if j = k then v else g j := by
  refine List.ext_getElem (by simp) fun j h1 h2 => ?_
  simp only [List.getElem_set, List.getElem_map, List.getElem_range]
  by_cases e : k = j
  · subst e; simp
  · rw [if_neg e, if_neg fun z => e z.symm]
theorem dget_map {α : Type} {f : α → D} {g : α → Nat} : ∀ {l : List α} {a : α}, a ∈ l → (∀ b ∈ l, g b = g a → f b = f a) → dget (l.map fun a => .int ((g a : Nat) : Int)) (l.map f) (.int ((g a : Nat) : Int)) = some (f a)
  | [], _, h, _ => absurd h List.not_mem_nil
  | b :: l, a, h, u => by
    show (if keyEq (.int ((g b : Nat) : Int)) (.int ((g a : Nat) : Int)) = true then some (f b) else dget (l.map fun a => .int ((g a : Nat) : Int)) (l.map f) (.int ((g a : Nat) : Int))) = _
    by_cases e : g b = g a
    · have ke : keyEq (.int ((g b : Nat) : Int)) (.int ((g a : Nat) : Int)) = true := decide_eq_true (congrArg (fun x : Nat => (x : Int)) e)
      rw [if_pos ke, u b List.mem_cons_self e]
    · rw [if_neg (fun z => e (by have := of_decide_eq_true z; omega))]
      rcases List.mem_cons.mp h with rfl | h
      · exact absurd rfl e
      · exact dget_map h fun c hc => u c (List.mem_cons_of_mem _ hc)
theorem dput_new {ks vs : List D} {x d : D} (h : ∀ k ∈ ks, keyEq k x = false) : dput ks vs x d = (ks ++ [x], vs ++ [d]) := by
  unfold dput
  rw [if_neg]
  intro z
  obtain ⟨k, h1, h2⟩ := List.any_eq_true.mp z
  rw [h k h1] at h2; cases h2
theorem kO {i : Int} : keyOk (.int i) = true := by rfl -- vi
end Vi

/-! Vi, part 28: expressions that draw. -/
namespace Vi
open PySem
variable {P : Tb} {G : List D} {Q : Flow × En → Prop} {en : En} {b : Blk} {R : D × En → Prop}
/-- a def that the first argument is lent to -/
theorem wpCall {f i : Nat} {es : Exs} {xs : List D} {ds : List D} (hp : pureA es = true) (hb : noB es = true) (h1 : getS en i = .ow xs) (h2 : pvs P G es en = .ok ds)
    (h : wp (P f (.ow xs :: ds.map .fz)) fun r => ∃ d ys, r = (d, [ys]) ∧ R (d, en.set i (.ow ys))) : wp (ev P G (.call f (.cons (.bvar i) es)) en) R := by
  obtain ⟨r, h3, d, ys, rfl, q⟩ := h
  refine ⟨(d, en.set i (.ow ys)), ?_, q⟩
  unfold ev
  have e1 : evs P G (.cons (.bvar i) es) en = .ok (.lst xs :: ds, en) := by
    unfold evs
    rw [show ev P G (.bvar i) en = .ok (.lst xs, en) by unfold ev; rw [h1]]
    simp only [Res.ok_bind]
    rw [evs_pvs es en hp, h2]
    rfl
  rw [e1]
  simp only [Res.ok_bind]
  have e2 : argsOf en (lentAt (.cons (.bvar i) es)) (.lst xs :: ds) = some (.ow xs :: ds.map .fz) := by
    show (match getS en i, argsOf en (lentAt es) ds with
      | .ow xs, some r => some (Slot.ow xs :: r)
      | _, _ => none) = _
    rw [h1, lent_none hb, args_none en _ ds (pvs_len h2)]
  rw [e2]
  show (P f _ >>= _) = _
  rw [h3]
  simp only [Res.ok_bind, Res.pure_eq]
  show Res.ok (d, putBack (some i :: lentAt es) [ys] en) = _
  unfold putBack
  rw [lent_none hb, back_none]
theorem wpBin {op : BOp} {x y : Ex} (h : wp (ev P G x en) fun r => wp (ev P G y r.2) fun q => ∃ d, binD op r.1 q.1 = .ok d ∧ R (d, q.2)) : wp (ev P G (.bin op x y) en) R := by
  unfold ev
  refine wp_bind (wp_mono h fun r hr => wp_bind (wp_mono hr fun q hq => ?_))
  obtain ⟨d, e, hq⟩ := hq
  rw [e]
  exact wp_ok hq
theorem wpTup {es : Exs} (h : wp (evs P G es en) fun r => R (.tup r.1, r.2)) : wp (ev P G (.tup es) en) R := by
  unfold ev
  exact wp_bind (wp_mono h fun r hr => wp_ok hr)
theorem wpBlt {f : BF} {es : Exs} (h : wp (evs P G es en) fun r => ∃ d, bfn f r.1 = .ok d ∧ R (d, r.2)) : wp (ev P G (.blt f es) en) R := by
  unfold ev
  refine wp_bind (wp_mono h fun r hr => ?_)
  obtain ⟨d, e, hr⟩ := hr
  rw [e]
  exact wp_ok hr
theorem wpAnd {x y : Ex} (h : wp (ev P G x en) fun r => ∃ t, r.1 = .bl t ∧ (t = true → wp (ev P G y r.2) R) ∧ (t = false → R (.bl false, r.2))) : wp (ev P G (.and x y) en) R := by
  unfold ev
  refine wp_bind (wp_mono h fun r hr => ?_)
  obtain ⟨d, en'⟩ := r
  obtain ⟨t, e, h1, h2⟩ := hr
  cases e
  simp only [asBl, Res.ok_bind]
  cases t
  · rw [if_neg (by decide)]; exact wp_ok (h2 rfl)
  · rw [if_pos rfl]; exact h1 rfl
theorem wpNot {x : Ex} (h : wp (ev P G x en) fun r => ∃ t, r.1 = .bl t ∧ R (.bl (!t), r.2)) : wp (ev P G (.not x) en) R := by
  unfold ev
  refine wp_bind (wp_mono h fun r hr => ?_)
  obtain ⟨d, en'⟩ := r
  obtain ⟨t, e, h1⟩ := hr
  cases e
  exact wp_ok h1
theorem wpsNil {S : List D × En → Prop} (h : S ([], en)) : wp (evs P G .nil en) S := by unfold evs; exact wp_ok h
theorem wpsCons {x : Ex} {es : Exs} {S : List D × En → Prop} (h : wp (ev P G x en) fun r => wp (evs P G es r.2) fun q => S (r.1 :: q.1, q.2)) : wp (evs P G (.cons x es) en) S := by
  unfold evs
  exact wp_bind (wp_mono h fun r hr => wp_bind (wp_mono hr fun q hq => wp_ok hq))
theorem wp_lcGo {α : Type} {step : D → En → Res (Option D × En)} {S : List D × En → Prop} (g : α → D) (I : List α → List D → En → Prop) : ∀ (todo done : List α) (ys : List D) (en : En), I done ys en →
    (∀ d1 x d2 ys en, done ++ todo = d1 ++ x :: d2 → I d1 ys en → wp (step (g x) en) fun r => match r.1 with | some y => I (d1 ++ [x]) (ys ++ [y]) r.2 | none => I (d1 ++ [x]) ys r.2) →
    (∀ zs en', I (done ++ todo) (ys ++ zs) en' → S (zs, en')) → wp (lcGo step (todo.map g) en) S
  | [], done, ys, en, h0, _, hq => by
    unfold List.map lcGo
    exact wp_ok (hq [] en (by rw [List.append_nil, List.append_nil]; exact h0))
  | x :: todo, done, ys, en, h0, hs, hq => by
    unfold List.map lcGo
    refine wp_bind (wp_mono (hs done x todo ys en rfl h0) fun r hr => ?_)
    have e : done ++ x :: todo = (done ++ [x]) ++ todo := by simp
    rw [e] at hs hq
    obtain ⟨o, en'⟩ := r
    cases o with
    | none => exact wp_bind (wp_lcGo g I todo (done ++ [x]) ys en' hr hs fun zs en' h => wp_ok (hq zs en' h))
    | some y => exact wp_bind (wp_lcGo g I todo (done ++ [x]) (ys ++ [y]) en' hr hs fun zs en' h => wp_ok (hq (y :: zs) en' (by rw [List.append_assoc ys [y] zs] at h; exact h)))
/-- a comprehension that draws -/
theorem wpLc {α : Type} {own : List Nat} {pt : Pat} {sk : SK} {src cnd : Exs} {elt : Ex} {ds : List D} (g : α → D) (l : List α) (I : List α → List D → En → Prop) (hp : pureA src = true) (h1 : pvs P G src en = .ok ds) (h2 : srcI sk ds = .ok (l.map g))
    (h0 : I [] [] (wipeE own en))
    (hs : ∀ d1 x d2 ys en, l = d1 ++ x :: d2 → I d1 ys en → wp (bindP pt (g x) en) fun en1 => wp (evs P G cnd en1) fun c => ∃ t, allT c.1 = .ok t ∧
      (t = true → wp (ev P G elt c.2) fun y => I (d1 ++ [x]) (ys ++ [y.1]) (wipeE own y.2)) ∧ (t = false → I (d1 ++ [x]) ys (wipeE own c.2)))
    (hq : ∀ ys en', I l ys en' → R (.lst ys, backE en own en')) : wp (ev P G (.lc own pt sk src cnd elt) en) R := by
  unfold ev
  refine wp_bind (wpA hp h1 ?_)
  dsimp only
  rw [h2]
  refine wp_bind (wp_ok (wp_bind (wp_lcGo g I l [] [] (wipeE own en) h0 ?_ ?_)))
  · intro d1 x d2 ys en1 e i1
    refine wp_bind (wp_mono (hs d1 x d2 ys en1 e i1) fun en2 h3 => wp_bind (wp_mono h3 fun c hc => ?_))
    obtain ⟨t, e1, e2, e3⟩ := hc
    rw [e1]
    simp only [Res.ok_bind]
    cases t
    · rw [if_neg (by decide)]; exact wp_ok (e3 rfl)
    · rw [if_pos rfl]; exact wp_bind (wp_mono (e2 rfl) fun y hy => wp_ok hy)
  · intro zs en' h
    exact wp_ok (hq zs en' h)
/-- a loop whose source draws -/
theorem xForI {α : Type} {pt : Pat} {sk : SK} {src : Exs} {a : Blk} (g : α → D) (h : wp (evs P G src en) fun r => ∃ (l : List α) (I : List α → En → Prop), srcI sk r.1 = .ok (l.map g) ∧ I [] r.2 ∧
    (∀ d1 x d2 en, l = d1 ++ x :: d2 → I d1 en → wp (bindP pt (g x) en) fun en1 => wp (exB P G a en1) fun r => match r.1 with | .nx => I (d1 ++ [x]) r.2 | .cnt => I (d1 ++ [x]) r.2 | .brk => wp (exB P G b r.2) Q | y => Q (y, r.2)) ∧
    (∀ en, I l en → wp (exB P G b en) Q)) : wp (exB P G (.cons (.forr pt sk src a) b) en) Q := by
  refine xCons ?_
  unfold ex
  refine wp_bind (wp_mono h fun r hr => ?_)
  obtain ⟨l, I, h2, h0, hs, hq⟩ := hr
  rw [h2]
  refine wp_bind (wp_ok (wp_for (fun ds en => ∃ d1 d2, l = d1 ++ d2 ∧ ds = d1.map g ∧ I d1 en) (l.map g) [] r.2 ⟨[], l, rfl, rfl, h0⟩ ?_ ?_))
  · rintro _ d d2 en1 e ⟨d1, r1, e1, rfl, i1⟩
    rw [List.nil_append, e1, List.map_append] at e
    have e2 := List.append_cancel_left e
    cases r1 with
    | nil => cases e2
    | cons x r1 =>
      cases e2
      refine wp_bind (wp_mono (hs d1 x r1 en1 e1 i1) fun en2 h3 => wp_mono h3 fun r hr => ?_)
      obtain ⟨f, en3⟩ := r
      cases f with
      | nx => exact ⟨d1 ++ [x], r1, by rw [e1]; simp, by simp, hr⟩
      | cnt => exact ⟨d1 ++ [x], r1, by rw [e1]; simp, by simp, hr⟩
      | brk => exact hr
      | ret _ => exact hr
      | retO _ => exact hr
      | thr _ _ => exact hr
  · rintro en1 ⟨d1, d2, e1, e2, i1⟩
    have : d1 = l := by
      have := congrArg List.length e2
      rw [List.nil_append, List.length_map, List.length_map] at this
      rw [e1] at this
      rw [List.length_append] at this
      have : d2 = [] := List.eq_nil_of_length_eq_zero (by omega)
      rw [e1, this, List.append_nil]
    subst this
    exact hq en1 i1
theorem dgetI {f : Int → D} : ∀ {l : List Int} {t : Int}, t ∈ l → dget (l.map D.int) (l.map f) (.int t) = some (f t)
  | [], _, h => absurd h List.not_mem_nil
  | b :: l, t, h => by
    show (if keyEq (.int b) (.int t) = true then some (f b) else dget (l.map D.int) (l.map f) (.int t)) = _
    by_cases e : b = t
    · subst e
      have ke : keyEq (.int b) (.int b) = true := decide_eq_true rfl
      rw [if_pos ke]
    · have ke : ¬ keyEq (.int b) (.int t) = true := fun z => e (of_decide_eq_true z)
      rw [if_neg ke]
      rcases List.mem_cons.mp h with rfl | h
      · exact absurd rfl e
      · exact dgetI h
theorem dsubI {f : Int → D} {l : List Int} {t : Int} (h : t ∈ l) : dsubD (.dic (l.map D.int) (l.map f)) (.int t) = .ok (f t) := by
  show (if keyOk (.int t) = true then ofO (dget (l.map D.int) (l.map f) (.int t)) else Res.bad) = _
  rw [if_pos kO, dgetI h]; rfl
theorem dsubN {f : Nat → D} {l : List Nat} {k : Nat} (h : k ∈ l) : dsubD (.dic (l.map fun k => .int ((k : Nat) : Int)) (l.map f)) (.int ((k : Nat) : Int)) = .ok (f k) := by
  show (if keyOk (.int ((k : Nat) : Int)) = true then ofO (dget (l.map fun k => .int ((k : Nat) : Int)) (l.map f) (.int ((k : Nat) : Int))) else Res.bad) = _
  rw [if_pos kO, dget_map (g := fun k => k) h fun b _ e => by rw [show b = k from e]]; rfl
theorem f_max1 {α : Type} {f : α → Int} {l : List α} {m : Int} (h : mostI (l.map f) = some m) : bfn .max1 [.lst (l.map fun a => .int (f a))] = .ok (.int m) := by
  simp only [bfn]
  unfold minR
  rw [ints_map f l]
  dsimp only
  rw [if_pos rfl, h]; rfl
theorem fold_max : ∀ (l : List Int) (x : Int), (∀ y ∈ x :: l, y ≤ l.foldl (fun m y => if m < y then y else m) x) ∧ l.foldl (fun m y => if m < y then y else m) x ∈ x :: l
  | [], x => ⟨fun y hy => by rw [List.mem_singleton.mp hy]; exact Int.le_refl _, List.mem_cons_self⟩
  | z :: l, x => by
    rw [List.foldl_cons]
    have hw : ∃ w, (if x < z then z else x) = w ∧ x ≤ w ∧ z ≤ w ∧ (w = x ∨ w = z) := ⟨_, rfl, by split <;> omega, by split <;> omega, by split <;> simp⟩
    obtain ⟨w, e, w1, w2, w3⟩ := hw
    rw [e]
    obtain ⟨h1, h2⟩ := fold_max l w
    have h3 := h1 _ List.mem_cons_self
    refine ⟨fun y hy => ?_, ?_⟩
    · rcases List.mem_cons.mp hy with rfl | hy
      · omega
      · rcases List.mem_cons.mp hy with rfl | hy
        · omega
        · exact h1 y (List.mem_cons_of_mem _ hy)
    · rcases List.mem_cons.mp h2 with e | h2
      · rw [e]
        rcases w3 with rfl | rfl
        · exact List.mem_cons_self
        · exact List.mem_cons_of_mem _ List.mem_cons_self
      · exact List.mem_cons_of_mem _ (List.mem_cons_of_mem _ h2)
theorem mostI_ok {l : List Int} (h : l ≠ []) : ∃ m, mostI l = some m ∧ m ∈ l ∧ ∀ y ∈ l, y ≤ m := by
  cases l with
  | nil => exact absurd rfl h
  | cons x l =>
    obtain ⟨h1, h2⟩ := fold_max l x
    exact ⟨_, rfl, h2, h1⟩
theorem e_intsNil {α : Type} {f : α → Int} {l : List α} : eqD (.lst (l.map fun a => .int (f a))) (.lst []) = .ok l.isEmpty := by -- vi
  have := (EqOk.int.lst).eq (by decide) (l.map f) []
  rw [List.map_map] at this
  refine (show eqD (.lst (l.map fun a => .int (f a))) (.lst []) = _ from this).trans ?_
  cases l <;> rfl
theorem e_intsNilT {α : Type} {f : α → Int} {l : List α} : eqD (.tup (l.map fun a => .int (f a))) (.tup []) = .ok l.isEmpty := by -- vi
  have := (EqOk.int.tup).eq (by decide) (l.map f) []
  rw [List.map_map] at this
  refine (show eqD (.tup (l.map fun a => .int (f a))) (.tup []) = _ from this).trans ?_
  cases l <;> rfl
theorem isEmpty_map {α β : Type} {f : α → β} {l : List α} : (l.map f).isEmpty = l.isEmpty := by cases l <;> rfl
/-- a block from a place on -/
def tailB : Nat → Blk → Blk
  | n + 1, .cons _ b => tailB n b
  | _, b => b
theorem b_rep4 {x : D} : binD .mul (.lst [x]) (.int 4) = .ok (.lst [x, x, x, x]) := b_rep (n := 4) (by decide) -- vi
theorem e_self {d : D} (h : gd 8 d = true) : eqD d d = .ok true := by
  obtain ⟨p, p1, p2, p3⟩ := gd_toP 8 d h
  have sh : SeqAt.shaped p = true := by
    unfold SeqAt.shaped
    rw [p2, decide_eq_true (Nat.le_trans p3 (by decide))]; rfl
  unfold eqD
  rw [p1]
  dsimp only
  rw [if_pos ⟨sh, sh⟩, SeqAt.eqv_refl p p2]
end Vi

/-! Vi, part 29: while. -/
namespace Vi
open PySem
theorem wp_while {c : En → Res (Bool × En)} {f : En → Res (Flow × En)} {R : Flow × En → Prop} (I : Nat → En → Prop) (hs : ∀ m en, I m en → wp (c en) fun r => (r.1 = true → wp (f r.2) fun q => match q.1 with
      | .nx => ∃ m', m' < m ∧ I m' q.2 | .cnt => ∃ m', m' < m ∧ I m' q.2 | .brk => R (.nx, q.2) | x => R (x, q.2)) ∧ (r.1 = false → R (.nx, r.2))) : ∀ (fu m : Nat) (en : En), m < fu → I m en → wp (whileN c f fu en) R
  | 0, m, en, h, _ => absurd h (Nat.not_lt_zero _)
  | fu + 1, m, en, h, i => by
    unfold whileN
    refine wp_bind (wp_mono (hs m en i) fun r hr => ?_)
    obtain ⟨t, en1⟩ := r
    obtain ⟨h1, h2⟩ := hr
    cases t with
    | false => exact wp_ok (h2 rfl)
    | true =>
      refine wp_bind (wp_mono (h1 rfl) fun q hq => ?_)
      obtain ⟨fl, en2⟩ := q
      cases fl with
      | nx => obtain ⟨m', l, i'⟩ := hq; exact wp_while I hs fu m' en2 (by omega) i'
      | cnt => obtain ⟨m', l, i'⟩ := hq; exact wp_while I hs fu m' en2 (by omega) i'
      | brk => exact wp_ok hq
      | ret d => exact wp_ok hq
      | retO i => exact wp_ok hq
      | thr c p => exact wp_ok hq
/-- a while: by a number that grows less -/
theorem xWhl {P : Tb} {G : List D} {Q : Flow × En → Prop} {en : En} {b : Blk} {c : Ex} {a : Blk} (I : Nat → En → Prop) {m : Nat} (hm : m < fuel) (hp : pureE c = true) (h0 : I m en)
    (hs : ∀ m en, I m en → ∃ t, pv P G c en = .ok (.bl t) ∧ (t = true → wp (exB P G a en) fun q => match q.1 with
      | .nx => ∃ m', m' < m ∧ I m' q.2 | .cnt => ∃ m', m' < m ∧ I m' q.2 | .brk => wp (exB P G b q.2) Q | x => Q (x, q.2)) ∧ (t = false → wp (exB P G b en) Q)) : wp (exB P G (.cons (.whl c a) b) en) Q := by
  refine xCons ?_
  unfold ex
  refine wp_while I (fun m en i => ?_) fuel m en hm h0
  obtain ⟨t, h1, h2, h3⟩ := hs m en i
  refine wp_bind (wpE hp h1 (wp_bind (wp_ok (wp_ok ⟨fun e => ?_, fun e => ?_⟩))))
  · refine wp_mono (h2 e) fun q hq => ?_
    obtain ⟨fl, en2⟩ := q
    cases fl <;> exact hq
  · exact h3 e
theorem sub_prev {f : Nat → D} {n k : Nat} (h : k < n) : subD (.tup ((List.range n).map f)) (.int (((k : Nat) : Int) - 1)) = .ok (f (if k = 0 then n - 1 else k - 1)) := by
  cases k with
  | zero =>
    obtain ⟨m, rfl⟩ : ∃ m, n = m + 1 := ⟨n - 1, by omega⟩
    rw [List.range_succ, List.map_append]
    show ofO (L2.atI ((List.range m).map f ++ [f m]) (-1)) = _
    rw [L2.atI_last]; rfl
  | succ k =>
    rw [show (((k + 1 : Nat) : Int) - 1) = ((k : Nat) : Int) by omega, if_neg (by omega)]
    exact st_rng (by omega)
end Vi

/-! Vi, part 30: tables, items by any index. -/
namespace Vi
open PySem
def mat (n m : Nat) (F : Nat → Nat → D) : List (List D) := (List.range n).map fun i => (List.range m).map fun j => F i j
def updM (F : Nat → Nat → D) (i j : Nat) (d : D) : Nat → Nat → D := fun a b => if a = i ∧ b = j then d else F a b
theorem mat_row {n m : Nat} {F : Nat → Nat → D} {i : Int} (h : 0 ≤ i ∧ i < n) : L2.atI (mat n m F) i = some ((List.range m).map fun j => F i.toNat j) := by
  obtain ⟨k, rfl⟩ : ∃ k : Nat, i = (k : Nat) := ⟨i.toNat, by omega⟩
  rw [Int.toNat_natCast]
  exact L2.atI_nat (by unfold mat; rw [List.getElem?_map, List.getElem?_range (by omega)]; rfl)
theorem atI_rng {m : Nat} {f : Nat → D} {j : Int} (h : 0 ≤ j ∧ j < m) : L2.atI ((List.range m).map f) j = some (f j.toNat) := by
  obtain ⟨k, rfl⟩ : ∃ k : Nat, j = (k : Nat) := ⟨j.toNat, by omega⟩
  rw [Int.toNat_natCast]
  exact L2.atI_nat (by rw [List.getElem?_map, List.getElem?_range (by omega)]; rfl)
theorem om2_mat {n m : Nat} {F : Nat → Nat → D} {i j : Int} (h1 : 0 ≤ i) (h2 : i < n) (h3 : 0 ≤ j) (h4 : j < m) : om2D (.om (mat n m F)) (.int i) (.int j) = .ok (F i.toNat j.toNat) := by -- vi
  unfold om2D
  dsimp only
  rw [mat_row ⟨h1, h2⟩, ofO_s, bOk, atI_rng ⟨h3, h4⟩]; rfl
theorem ixN_in {n : Nat} {i : Int} (h : 0 ≤ i ∧ i < n) : L2.ixN n i = some i.toNat := by
  unfold L2.ixN
  rw [if_pos h.1, if_pos (by omega)]
theorem setR_rng {α : Type} {n k : Nat} {f : Nat → α} {x : α} : ((List.range n).map f).set k x = (List.range n).map fun j => if j = k then x else f j := by
  refine List.ext_getElem (by simp) fun j h1 h2 => ?_
  rw [List.getElem_set, List.getElem_map, List.getElem_map, List.getElem_range]
  by_cases c : k = j
  · rw [if_pos c, if_pos c.symm]
  · rw [if_neg c, if_neg fun z => c z.symm]
theorem put_rng {n : Nat} {f : Nat → D} {x : D} {k : Int} (h1 : 0 ≤ k) (h2 : k < n) : putIx ((List.range n).map f) k x = some ((List.range n).map fun j => if j = k.toNat then x else f j) := by
  show (L2.ixN _ k).map _ = _
  rw [ixN_in (by simpa using ⟨h1, h2⟩)]
  show some (((List.range n).map f).set k.toNat x) = some _
  rw [setR_rng]
theorem put_mat {n m : Nat} {F : Nat → Nat → D} {x : D} {i j : Int} (h1 : 0 ≤ i) (h2 : i < n) (h3 : 0 ≤ j) (h4 : j < m) : putII (mat n m F) i j x = some (mat n m (updM F i.toNat j.toNat x)) := by
  unfold putII
  rw [mat_row ⟨h1, h2⟩]
  dsimp only
  rw [put_rng h3 h4]
  dsimp only
  unfold putR
  rw [ixN_in (by unfold mat; simpa using ⟨h1, h2⟩)]
  show some ((mat n m F).set i.toNat _) = some _
  unfold mat
  rw [setR_rng]
  congr 1
  refine List.map_congr_left fun a _ => ?_
  by_cases c : a = i.toNat
  · rw [if_pos c]
    refine List.map_congr_left fun b _ => ?_
    unfold updM
    by_cases c2 : b = j.toNat
    · rw [if_pos c2, if_pos ⟨c, c2⟩]
    · rw [if_neg c2, if_neg (by simp [c2]), c]
  · rw [if_neg c]
    refine List.map_congr_left fun b _ => ?_
    unfold updM
    rw [if_neg (by simp [c])]
theorem st_rngI {f : Nat → D} {n : Nat} {i : Int} (h1 : 0 ≤ i) (h2 : i < n) : subD (.tup ((List.range n).map f)) (.int i) = .ok (f i.toNat) := by -- vi
  show ofO (L2.atI _ _) = _
  rw [atI_rng ⟨h1, h2⟩]; rfl
theorem sl_rngI {f : Nat → D} {n : Nat} {i : Int} (h1 : 0 ≤ i) (h2 : i < n) : subD (.lst ((List.range n).map f)) (.int i) = .ok (f i.toNat) := by -- vi
  show ofO (L2.atI _ _) = _
  rw [atI_rng ⟨h1, h2⟩]; rfl
theorem tn_nat {k : Nat} : ((k : Nat) : Int).toNat = k := Int.toNat_natCast k -- vi
theorem tn_0 : (0 : Int).toNat = 0 := rfl -- vi
theorem tn_1 : (1 : Int).toNat = 1 := rfl -- vi
theorem tn_2 : (2 : Int).toNat = 2 := rfl -- vi
theorem tn_s {k : Nat} : (((k : Nat) : Int) + 1).toNat = k + 1 := by omega -- vi
theorem tn_p {k : Nat} : (((k : Nat) : Int) - 1).toNat = k - 1 := by omega -- vi
theorem mat_lst {n m : Nat} {F : Nat → Nat → D} : (mat n m F).map D.lst = (List.range n).map fun i => .lst ((List.range m).map fun j => F i j) := by
  unfold mat
  rw [List.map_map]; rfl
/-- a slice up to, from -/
theorem rng_take {f : Nat → D} {n k : Nat} (h : k ≤ n) : ((List.range n).map f).take k = (List.range k).map f := by
  rw [← List.map_take, List.take_range, Nat.min_eq_left h]
theorem rng_drop {f : Nat → D} {n k : Nat} : ((List.range n).map f).drop k = (List.range (n - k)).map fun j => f (k + j) := by
  refine List.ext_getElem (by simp) fun j h1 h2 => ?_
  rw [List.getElem_drop, List.getElem_map, List.getElem_map, List.getElem_range, List.getElem_range]
theorem cut_from {xs : List D} {i : Int} (h : 0 ≤ i) : cutD xs (some i) none = xs.drop i.toNat := by
  obtain ⟨k, rfl⟩ : ∃ k : Nat, i = (k : Nat) := ⟨i.toNat, by omega⟩
  unfold cutD
  rw [HT.sIx_nat, HT.sIx_none, Int.toNat_natCast, List.take_of_length_le (by rw [List.length_drop]; omega)]
  by_cases c : k ≤ xs.length
  · rw [Nat.min_eq_left c]
  · rw [Nat.min_eq_right (by omega), List.drop_of_length_le (Nat.le_refl _), List.drop_of_length_le (by omega)]
theorem cut_to {xs : List D} {i : Int} (h : 0 ≤ i) : cutD xs none (some i) = xs.take i.toNat := by
  obtain ⟨k, rfl⟩ : ∃ k : Nat, i = (k : Nat) := ⟨i.toNat, by omega⟩
  unfold cutD
  rw [HT.sIx_nat, HT.sIx_none, Int.toNat_natCast, List.drop_zero, Nat.sub_zero]
  by_cases c : k ≤ xs.length
  · rw [Nat.min_eq_left c]
  · rw [Nat.min_eq_right (by omega), List.take_of_length_le (Nat.le_refl _), List.take_of_length_le (by omega)]
theorem cut_in {xs : List D} {i j : Int} (h : 0 ≤ i) (h' : i ≤ j) (h2 : j ≤ xs.length) : cutD xs (some i) (some j) = (xs.drop i.toNat).take (j.toNat - i.toNat) := by
  obtain ⟨k, rfl⟩ : ∃ k : Nat, i = (k : Nat) := ⟨i.toNat, by omega⟩
  obtain ⟨l, rfl⟩ : ∃ k : Nat, j = (k : Nat) := ⟨j.toNat, by omega⟩
  unfold cutD
  rw [HT.sIx_nat, HT.sIx_nat, Int.toNat_natCast, Int.toNat_natCast, Nat.min_eq_left (by omega), Nat.min_eq_left (by omega)]
theorem slT_from {xs : List D} {i : Int} (h : 0 ≤ i) : sliceD (.tup xs) (some i) none = .ok (.tup (xs.drop i.toNat)) := by rw [← cut_from h]; rfl -- vi
theorem slL_from {xs : List D} {i : Int} (h : 0 ≤ i) : sliceD (.lst xs) (some i) none = .ok (.lst (xs.drop i.toNat)) := by rw [← cut_from h]; rfl -- vi
theorem slT_to {xs : List D} {i : Int} (h : 0 ≤ i) : sliceD (.tup xs) none (some i) = .ok (.tup (xs.take i.toNat)) := by rw [← cut_to h]; rfl -- vi
theorem slL_to {xs : List D} {i : Int} (h : 0 ≤ i) : sliceD (.lst xs) none (some i) = .ok (.lst (xs.take i.toNat)) := by rw [← cut_to h]; rfl -- vi
theorem slT_in {xs : List D} {i j : Int} (h : 0 ≤ i) (h' : i ≤ j) (h2 : j ≤ xs.length) : sliceD (.tup xs) (some i) (some j) = .ok (.tup ((xs.drop i.toNat).take (j.toNat - i.toNat))) := by rw [← cut_in h h' h2]; rfl
theorem slL_in {xs : List D} {i j : Int} (h : 0 ≤ i) (h' : i ≤ j) (h2 : j ≤ xs.length) : sliceD (.lst xs) (some i) (some j) = .ok (.lst ((xs.drop i.toNat).take (j.toNat - i.toNat))) := by rw [← cut_in h h' h2]; rfl
theorem oN {d : D} : optI true d = .ok none := by rfl -- vi
theorem oS {i : Int} : optI false (.int i) = .ok (some i) := by rfl -- vi
theorem np_n : isNop .nop = true := by rfl -- vi
theorem np_i {i : Int} : isNop (.int i) = false := by rfl -- vi
theorem np_v {i : Nat} : isNop (.var i) = false := by rfl -- vi
theorem np_b {op : BOp} {a b : Ex} : isNop (.bin op a b) = false := by rfl -- vi
theorem np_f {f : BF} {es : Exs} : isNop (.blt f es) = false := by rfl -- vi
theorem np_s {a b : Ex} : isNop (.sub a b) = false := by rfl -- vi
theorem np_c {f : Nat} {es : Exs} : isNop (.call f es) = false := by rfl -- vi
theorem np_g {a : Ex} : isNop (.neg a) = false := by rfl -- vi
/-- a row with one item changed, put together of its parts -/
theorem splice {f : Nat → D} {x : D} {n a : Nat} (h : a < n) : (List.range a).map f ++ x :: (List.range (n - (a + 1))).map (fun j => f (a + 1 + j)) = (List.range n).map fun j => if j = a then x else f j := by
  refine List.ext_getElem (by simp; omega) fun j h1 h2 => ?_
  rw [List.getElem_map (h := h2), List.getElem_range]
  by_cases c : j < a
  · rw [List.getElem_append_left (by simpa using c), List.getElem_map, List.getElem_range, if_neg (by omega)]
  · rw [List.getElem_append_right (by simp; omega)]
    simp only [List.length_map, List.length_range]
    by_cases c2 : j = a
    · subst c2
      rw [if_pos rfl]
      simp only [Nat.sub_self]
      rfl
    · rw [if_neg c2]
      obtain ⟨m, hm⟩ : ∃ m, j - a = m + 1 := ⟨j - a - 1, by omega⟩
      simp only [hm, List.getElem_cons_succ, List.getElem_map, List.getElem_range]
      congr 1
      omega
end Vi

/-! Vi, part 31: further expressions that draw; the draws of the later laws. -/
namespace Vi
open PySem
section
variable {P : Tb} {G : List D} {en : En} {R : D × En → Prop}
theorem wpIte {c x y : Ex} (h : wp (ev P G c en) fun r => ∃ t, r.1 = .bl t ∧ (t = true → wp (ev P G x r.2) R) ∧ (t = false → wp (ev P G y r.2) R)) : wp (ev P G (.ite c x y) en) R := by
  unfold ev
  refine wp_bind (wp_mono h fun r hr => ?_)
  obtain ⟨d, en'⟩ := r
  obtain ⟨t, e, h1, h2⟩ := hr
  cases e
  simp only [asBl, Res.ok_bind]
  cases t
  · rw [if_neg (by decide)]; exact h2 rfl
  · rw [if_pos rfl]; exact h1 rfl
theorem wpCmp {op : COp} {x y : Ex} (h : wp (ev P G x en) fun r => wp (ev P G y r.2) fun q => ∃ t, cmpD op r.1 q.1 = .ok t ∧ R (.bl t, q.2)) : wp (ev P G (.cmp op x y) en) R := by
  unfold ev
  refine wp_bind (wp_mono h fun r hr => wp_bind (wp_mono hr fun q hq => ?_))
  obtain ⟨t, e, hq⟩ := hq
  rw [e]
  exact wp_ok hq
theorem wpSub {x y : Ex} (h : wp (ev P G x en) fun r => wp (ev P G y r.2) fun q => ∃ d, subD r.1 q.1 = .ok d ∧ R (d, q.2)) : wp (ev P G (.sub x y) en) R := by
  unfold ev
  refine wp_bind (wp_mono h fun r hr => wp_bind (wp_mono hr fun q hq => ?_))
  obtain ⟨t, e, hq⟩ := hq
  rw [e]
  exact wp_ok hq
theorem wpOr {x y : Ex} (h : wp (ev P G x en) fun r => ∃ t, r.1 = .bl t ∧ (t = false → wp (ev P G y r.2) R) ∧ (t = true → R (.bl true, r.2))) : wp (ev P G (.or x y) en) R := by
  unfold ev
  refine wp_bind (wp_mono h fun r hr => ?_)
  obtain ⟨d, en'⟩ := r
  obtain ⟨t, e, h1, h2⟩ := hr
  cases e
  simp only [asBl, Res.ok_bind]
  cases t
  · rw [if_neg (by decide)]; exact h1 rfl
  · rw [if_pos rfl]; exact wp_ok (h2 rfl)
theorem wpLst {es : Exs} (h : wp (evs P G es en) fun r => R (.lst r.1, r.2)) : wp (ev P G (.lst es) en) R := by
  unfold ev
  exact wp_bind (wp_mono h fun r hr => wp_ok hr)
end
/-- a statement by itself -/
theorem xMid {P : Tb} {G : List D} {en en' : En} {Q : Flow × En → Prop} {s : Sx} {b : Blk} (h : wp (exB P G (.cons s .nil) en) fun r => r = (.nx, en')) (q : wp (exB P G b en') Q) : wp (exB P G (.cons s b) en) Q := by
  refine xCons ?_
  unfold exB at h
  obtain ⟨r, h1, h2⟩ := h
  subst h2
  cases h3 : ex P G s en with
  | ok p =>
    rw [h3] at h1
    obtain ⟨f, en1⟩ := p
    cases f with
    | nx =>
      have h1 : exB P G .nil en1 = .ok (.nx, en') := h1
      unfold exB at h1
      cases h1
      exact wp_ok q
    | _ => cases (show Res.ok _ = _ from h1)
  | exc c p => rw [h3] at h1; cases (show Res.exc _ _ = _ from h1)
  | bad => rw [h3] at h1; cases (show Res.bad = _ from h1)
/-- .. that may end the def -/
theorem xMidR {P : Tb} {G : List D} {en : En} {Q : Flow × En → Prop} {s : Sx} {b : Blk} {I : En → Prop} (h : wp (exB P G (.cons s .nil) en) fun r => (r.1 = .nx ∧ I r.2) ∨ (r.1 ≠ .nx ∧ Q r)) (q : ∀ en', I en' → wp (exB P G b en') Q) : wp (exB P G (.cons s b) en) Q := by
  refine xCons ?_
  unfold exB at h
  obtain ⟨r, h1, h2⟩ := h
  cases h3 : ex P G s en with
  | ok p =>
    rw [h3] at h1
    obtain ⟨f, en1⟩ := p
    cases f with
    | nx =>
      have h1 : exB P G .nil en1 = .ok r := h1
      unfold exB at h1
      cases h1
      rcases h2 with h2 | h2
      · exact wp_ok (q _ h2.2)
      · exact absurd rfl h2.1
    | _ =>
      cases (show Res.ok _ = _ from h1)
      rcases h2 with h2 | h2
      · exact nomatch h2.1
      · exact wp_ok h2.2
  | exc c p => rw [h3] at h1; cases (show Res.exc _ _ = _ from h1)
  | bad => rw [h3] at h1; cases (show Res.bad = _ from h1)
theorem evs_len0 {P : Tb} {G : List D} : ∀ (xs : Exs) (en en' : En) (ds : List D), evs P G xs en = .ok (ds, en') → ds.length = exsLen xs
  | .nil, en, en', ds, h => by unfold evs at h; cases h; rfl
  | .cons e es, en, en', ds, h => by
    unfold evs at h
    obtain ⟨⟨r, e1⟩, _, h1⟩ := Res.bind_ok h
    obtain ⟨⟨q, e2⟩, h3, h2⟩ := Res.bind_ok h1
    cases h2
    exact congrArg (· + 1) (evs_len0 es _ _ _ h3)
/-- a call that no list is lent to, whose arguments draw -/
theorem wpCallX {P : Tb} {G : List D} {en : En} {R : D × En → Prop} {f : Nat} {es : Exs} (hb : noB es = true) (h : wp (evs P G es en) fun r => wp (P f (r.1.map .fz)) fun q => R (q.1, r.2)) : wp (ev P G (.call f es) en) R := by
  obtain ⟨⟨ds, en1⟩, h1, ⟨q, h2, h3⟩⟩ := h
  refine ⟨(q.1, en1), ?_, h3⟩
  unfold ev
  rw [h1]
  simp only [Res.ok_bind]
  rw [lent_none hb, args_none en1 _ ds (evs_len0 es en en1 ds h1)]
  show (P f (ds.map .fz) >>= fun q => Res.ok (q.1, putBack (List.replicate (exsLen es) none) q.2 en1)) = _
  rw [show P f (ds.map .fz) = .ok q from h2]
  simp only [Res.ok_bind]
  rw [back_none]
theorem of_bind {α β : Type} {r : Res α} {a : α} {f : α → Res β} {x : Res β} (h : r = .ok a) (q : f a = x) : (r >>= f) = x := by rw [h]; exact q
theorem lcM_those {α β : Type} {l : List α} {F : (a : α) → a ∈ l → Res (Option β)} (p : α → Bool) (g : α → β) (h : ∀ a m, F a m = if p a = true then .ok (some (g a)) else .ok none) : lcM l F = .ok ((l.filter p).map g) := by
  rw [show F = fun a _ => if p a = true then .ok (some (g a)) else .ok none from by funext a m; exact h a m]
  exact lcM_filter
theorem lcR_those {β : Type} {n : Nat} {F : (a : Nat) → a < n → Res (Option β)} (p : Nat → Bool) (g : Nat → β) (h : ∀ a m, F a m = if p a = true then .ok (some (g a)) else .ok none) : lcR n F = .ok (((List.range n).filter p).map g) := lcM_those p g fun a m => h a _
theorem lcM_all {α β : Type} {l : List α} {F : (a : α) → a ∈ l → Res (Option β)} (g : α → β) (h : ∀ a m, F a m = .ok (some (g a))) : lcM l F = .ok (l.map g) := by
  rw [show F = fun a _ => .ok (some (g a)) from by funext a m; exact h a m]
  exact lcM_some
theorem lcR_all {β : Type} {n : Nat} {F : (a : Nat) → a < n → Res (Option β)} (g : Nat → β) (h : ∀ a m, F a m = .ok (some (g a))) : lcR n F = .ok ((List.range n).map g) := lcM_all g fun a m => h a _
theorem if_int {c : Prop} [Decidable c] {i j : Int} : (if c then Res.ok (D.int i) else .ok (D.int j)) = .ok (D.int (if c then i else j)) := by split <;> rfl
theorem if_bl {c : Prop} [Decidable c] {i j : Bool} : (if c then Res.ok (D.bl i) else .ok (D.bl j)) = .ok (D.bl (if c then i else j)) := by split <;> rfl
theorem if_oi {c : Prop} [Decidable c] {i j : Int} : (if c then Res.ok (some (D.int i)) else .ok (some (D.int j))) = .ok (some (D.int (if c then i else j))) := by split <;> rfl
theorem rng_split {n x : Nat} {d1 d2 : List Nat} (e : List.range n = d1 ++ x :: d2) : x < n ∧ d1 = List.range x := by
  have hx : x < n := List.mem_range.mp (by rw [e]; simp)
  refine ⟨hx, ?_⟩
  have l1 : d1.length < n := by have := congrArg List.length e; simp at this; omega
  have a1 : (List.range n)[d1.length]? = some x := by rw [e, List.getElem?_append_right (Nat.le_refl _), Nat.sub_self]; rfl
  rw [List.getElem?_range l1] at a1
  cases a1
  have := congrArg (List.take d1.length) e
  rw [List.take_range, List.take_left, Nat.min_eq_left (by omega)] at this
  exact this.symm
/-- the draws of the later laws -/
def fNext : Fn := ⟨[true, false], .dat, 4, (.cons (.asg 2 (.sub (.bvar 0) (.int 2))) (.cons (.ife (.cmp .eq (.var 2) (.int 0)) (.cons (.asg 3 (.int 0)) (.cons (.ife (.cmp .lt (.sub (.bvar 0) (.int 1)) (.blt .len (.cons (.sub (.bvar 0) (.int 0)) .nil))) (.cons (.asg 3 (.blt .abs (.cons (.blt .int (.cons (.sub (.sub (.bvar 0) (.int 0)) (.sub (.bvar 0) (.int 1))) .nil)) .nil))) (.cons (.setI 0 (.int 1) (.bin .add (.sub (.bvar 0) (.int 1)) (.int 1))) .nil)) .nil) (.cons (.asg 2 (.var 3)) (.cons (.ife (.cmp .lt (.var 3) (.bin .pow (.int 10) (.int 18))) (.cons (.setI 0 (.int 3) (.bin .mod (.blt .int (.cons (.bin .add (.bin .add (.bin .mul (.sub (.bvar 0) (.int 3)) (.int 69621)) (.bin .mul (.var 3) (.int 40692))) (.int 17)) .nil)) (.int 2147483647))) (.cons (.ret (.bin .mod (.bin .mod (.blt .int (.cons (.bin .mul (.blt .int (.cons (.bin .fdiv (.sub (.bvar 0) (.int 3)) (.int 5)) .nil)) (.int 48271)) .nil)) (.int 2147483647)) (.var 1))) .nil)) .nil) .nil)))) .nil) (.cons (.setI 0 (.int 2) (.bin .fdiv (.var 2) (.var 1))) (.cons (.ret (.bin .mod (.blt .int (.cons (.var 2) .nil)) (.var 1))) .nil))))⟩
local macro_rules | `(tactic| simp! [$ls,*]) => `(tactic| simp +contextual (disch := first | assumption | omega | (simp only [List.length_map, List.length_range, List.length_cons, List.length_nil, List.length_append, List.length_replicate]; first | assumption | omega)) only [bOk, varD_fz, bvarD_ow, bvarD_od, gS0, gSs, p_var, p_bvar, p_int, p_str, p_non, p_bl, p_nop, p_dnew, p_gc, p_tup, p_lst, p_bin, p_neg, p_not, p_cmp, p_chain, p_and, p_or, p_ite, p_call, p_blt, p_isi, p_sub, p_dsub, p_fld, p_isc, p_make, p_meth, p_om2, p_prim, p_lcm, fld_0, fld_1, fld_2, fld_3, isc_ok, obj_ok, p_mdef, p_kmax, p_asked, p_lk, odD_od, mask0, mask_c, ms_fz, ms_ow, ms_od, ms_no, p_trev, t_rev, p_sset, p_slice, p_lc, p_lc2, p_nil, p_cons, bind_v, bind_t2, bind_t3, bind_t4, wipe0, wipeC, setZ, setC, asInt_i, asBl_b, ofO_s, allT_0, allT_1, if_t, if_f, if_and, if_or, bind_if, c_lt, c_gt, c_le, c_ge, c_eq, c_ne, c_is, c_isnot, c_isB, c_isnotB, c_inT, c_inL, c_ninT, c_ninL, n_int, n_bl, n_str, n_tup, n_lst, n_non, b_add, b_sub, b_mul, b_mod, b_fdiv, b_lst, b_tup, b_rep, b_repT, f_lenL, f_lenT, f_abs, f_int, f_intB, f_bool, f_listL, f_listT, f_listD, f_tupL, f_tupT, f_all, f_any, f_sum, f_sumT, f_max2, f_min2, i_int, i_intB, i_intN, i_intS, i_intT, i_intL, i_boolI, i_bool, i_boolN, i_boolS, i_boolT, i_boolL, i_strI, i_strB, i_strN, i_str, i_strT, i_strL, i_tupI, i_tupB, i_tupN, i_tupS, i_tup, i_tupL, i_lstI, i_lstB, i_lstN, i_lstS, i_lstT, i_lst, st_rng, sl_rng, s_lst, s_tup, s_keys, s_rng, lcM_of, lcM_rng, lcR_some, lcR_filter, lcM_some, lcM_filter, lcCM_of, lcCM_rng, lcCM_ok, lcCR_ok, lcP_nil, lcP_cons, m_some, m_none, e_int, e_bl, e_ones, e_pow, sb_small, e_nil0, sset_rng, sl_ints, sl_last, kO, e_intsNil, e_intsNilT, b_rep4, om2_mat, st_rngI, sl_rngI, tn_nat, tn_0, tn_1, tn_2, tn_s, tn_p, slT_from, slL_from, slT_to, slL_to, oN, oS, np_n, np_i, np_v, np_b, np_f, np_s, np_c, np_g, List.length_map, List.length_range, List.map_cons, List.map_nil, List.length_cons, List.length_nil, List.length_append, Nat.zero_add, List.nil_append, List.cons_append, Bool.not_true, Bool.not_false, Bool.and_true, Bool.true_and, Bool.and_false, Bool.false_and, Bool.or_true, Bool.true_or, Bool.or_false, Bool.false_or, Bool.not_not, sub_t0, sub_t1, sub_t2, sub_t3, sub_l0, sub_l1, sub_l2, sub_l3, decide_true, decide_false, if_true, if_false, ite_self, $ls,*])
theorem next_ok {G : List D} {fns : List Fn} {i k : Nat} (hf : fns[i]? = some fNext) {ns : List Int} (hn : ns.length ≤ 63) {st : List D} (hs : StOk ns st) {lim : Int} (h1 : 0 < lim) (h2 : lim < 1073741824) :
    wp (tab G fns (k + 1) i [.ow st, .fz (.int lim)]) fun r => ∃ v st', r = (.int v, [st']) ∧ 0 ≤ v ∧ v < lim ∧ StOk ns st' := by
  obtain ⟨j, b, s, rfl, b0, s0, s1⟩ := hs
  refine wp_fn hf rfl ?_
  show wp (exB _ _ fNext.body [.ow (stD ns j b s), .fz (.int lim), .no, .no]) _
  unfold fNext stD
  dsimp only
  have h2' : 0 < lim ∧ lim < 1073741824 := ⟨h1, h2⟩
  have hsm : ∀ s, smallB s = true ∨ smallB 48271 = true := fun s => .inr (by decide)
  have hsm2 : ∀ s, smallB s = true ∨ smallB 69621 = true := fun s => .inr (by decide)
  have hsm3 : ∀ s, smallB s = true ∨ smallB 40692 = true := fun s => .inr (by decide)
  -- what stands behind the first if
  have rest : ∀ (j : Nat) (b s : Int) (x : Slot), 0 ≤ b → 0 ≤ s → s < 2147483648 → wp (exB (tab G fns k) G (.cons (.setI 0 (.int 2) (.bin .fdiv (.var 2) (.var 1))) (.cons (.ret (.bin .mod (.blt .int (.cons (.var 2) .nil)) (.var 1))) .nil))
      [.ow (stD ns j 0 s), .fz (.int lim), .fz (.int b), x]) fun r => ∃ o, lentBack [.ow (stD ns j b s), .fz (.int lim)] r.2 = some o ∧ (∃ d, r.1 = .ret d ∧ ∃ v st', (d, o) = (.int v, [st']) ∧ 0 ≤ v ∧ v < lim ∧ StOk ns st') := by
    intro j b s x b0 s0 s1
    unfold stD
    apply xSet rfl rfl
    · simp! []
      rfl
    · simp! []
      rfl
    · rfl
    · exact put2
    apply xRet; apply wpE rfl
    · simp! []
      rfl
    refine ⟨_, rfl, _, rfl, _, _, rfl, Int.emod_nonneg _ (by omega), Int.emod_lt_of_pos _ h1, j, _, s, rfl, Int.ediv_nonneg b0 (by omega), s0, s1⟩
  have lent2 : ∀ {xs ys zs : List D} {en : En}, lentBack [.ow xs, .fz (.int lim)] en = lentBack [.ow ys, .fz (.int lim)] en := lent_ow
  apply xAsg; apply wpE rfl
  · simp! []
    rfl
  (try simp only [setZ, setC])
  apply xBoth (t := decide (b = 0)) rfl
  · simp! []
  · intro hb
    have hb := of_decide_eq_true hb
    subst hb
    apply xAsg; apply wpE rfl
    · simp! []
      rfl
    (try simp only [setZ, setC])
    -- what stands behind the reading of a cell
    have mid : ∀ (j : Nat) (c : Int), 0 ≤ c → wp (exB (tab G fns k) G (.cons (.asg 2 (.var 3)) (.cons (.ife (.cmp .lt (.var 3) (.bin .pow (.int 10) (.int 18))) (.cons (.setI 0 (.int 3) (.bin .mod (.blt .int (.cons (.bin .add (.bin .add (.bin .mul (.sub (.bvar 0) (.int 3)) (.int 69621)) (.bin .mul (.var 3) (.int 40692))) (.int 17)) .nil)) (.int 2147483647))) (.cons (.ret (.bin .mod (.bin .mod (.blt .int (.cons (.bin .mul (.blt .int (.cons (.bin .fdiv (.sub (.bvar 0) (.int 3)) (.int 5)) .nil)) (.int 48271)) .nil)) (.int 2147483647)) (.var 1))) .nil)) .nil) .nil))
        [.ow (stD ns j 0 s), .fz (.int lim), .fz (.int 0), .fz (.int c)]) fun r => (∃ c, 0 ≤ c ∧ r = (.nx, [.ow (stD ns j 0 s), .fz (.int lim), .fz (.int c), .fz (.int c)])) ∨ ∃ v s', 0 ≤ v ∧ v < lim ∧ 0 ≤ s' ∧ s' < 2147483648 ∧ r = (.ret (.int v), [.ow (stD ns j 0 s'), .fz (.int lim), .fz (.int c), .fz (.int c)]) := by
      intro j c c0
      unfold stD
      apply xAsg; apply wpE rfl
      · simp! []
        rfl
      (try simp only [setZ, setC])
      apply xBoth (t := decide (c < 1000000000000000000)) rfl
      · simp! [e_pow]
      · intro _
        have m1 := hsm2 s
        have m2 := hsm3 c
        apply xSet rfl rfl
        · simp! []
          rfl
        · simp! []
          rfl
        · rfl
        · exact put3
        have g0 : 0 ≤ (s * 69621 + c * 40692 + 17) % 2147483647 := Int.emod_nonneg _ (by decide)
        have g1 : (s * 69621 + c * 40692 + 17) % 2147483647 < 2147483647 := Int.emod_lt_of_pos _ (by decide)
        generalize (s * 69621 + c * 40692 + 17) % 2147483647 = z at g0 g1
        have m3 := hsm (z / 5)
        apply xRet; apply wpE rfl
        · simp! []
          rfl
        exact .inr ⟨_, z, Int.emod_nonneg _ (by omega), Int.emod_lt_of_pos _ h1, g0, by omega, rfl⟩
      · intro _
        apply xNil
        show wp _ _
        apply xNil
        exact .inl ⟨c, c0, rfl⟩
    have fin : ∀ (j : Nat) (c : Int), 0 ≤ c → wp (exB (tab G fns k) G (.cons (.asg 2 (.var 3)) (.cons (.ife (.cmp .lt (.var 3) (.bin .pow (.int 10) (.int 18))) (.cons (.setI 0 (.int 3) (.bin .mod (.blt .int (.cons (.bin .add (.bin .add (.bin .mul (.sub (.bvar 0) (.int 3)) (.int 69621)) (.bin .mul (.var 3) (.int 40692))) (.int 17)) .nil)) (.int 2147483647))) (.cons (.ret (.bin .mod (.bin .mod (.blt .int (.cons (.bin .mul (.blt .int (.cons (.bin .fdiv (.sub (.bvar 0) (.int 3)) (.int 5)) .nil)) (.int 48271)) .nil)) (.int 2147483647)) (.var 1))) .nil)) .nil) .nil))
        [.ow (stD ns j 0 s), .fz (.int lim), .fz (.int 0), .fz (.int c)]) (aft (exB (tab G fns k) G (.cons (.setI 0 (.int 2) (.bin .fdiv (.var 2) (.var 1))) (.cons (.ret (.bin .mod (.blt .int (.cons (.var 2) .nil)) (.var 1))) .nil))) fun r => ∃ o, lentBack [.ow (stD ns j 0 s), .fz (.int lim)] r.2 = some o ∧ (∃ d, r.1 = .ret d ∧ ∃ v st', (d, o) = (.int v, [st']) ∧ 0 ≤ v ∧ v < lim ∧ StOk ns st')) := by
      intro j c c0
      refine wp_mono (mid j c c0) fun r hr => ?_
      rcases hr with ⟨c', c0', rfl⟩ | ⟨v, s', v0, v1, g0, g1, rfl⟩
      · show wp _ _
        exact wp_mono (rest j c' s _ c0' s0 s1) fun r ⟨o, ho, q⟩ => ⟨o, lent_ow.trans ho, q⟩
      · exact ⟨_, rfl, _, rfl, v, _, rfl, v0, v1, j, 0, s', rfl, Int.le_refl 0, g0, g1⟩
    by_cases hj : j < ns.length
    · have hsub : subD (.lst (ns.map .int)) (.int ((j : Nat) : Int)) = .ok (.int ns[j]) := subl_map _ _ _ hj
      apply xThen rfl
      · have e : decide (((j : Nat) : Int) < ((ns.length : Nat) : Int)) = true := decide_eq_true (by omega)
        simp! [e]
      generalize ns[j] = c at hsub
      have hln : ∀ L, bfn .len [D.lst L] = .ok (.int ((L.length : Nat) : Int)) := fun _ => rfl
      apply xAsg; apply wpE rfl
      · simp! [hsub]
        rfl
      (try simp only [setZ, setC])
      generalize hc : (if c < 0 then -c else c) = c'
      have c0 : 0 ≤ c' := by split at hc <;> omega
      apply xSet rfl rfl
      · simp! []
        rfl
      · simp! []
        rfl
      · rfl
      · exact put1
      (try simp only [setZ, setC])
      apply xNil
      show wp _ _
      exact wp_mono (fin (j + 1) c' c0) fun r hr => by
        obtain ⟨f, en⟩ := r
        cases f with
        | nx => exact wp_mono hr fun r ⟨o, ho, d, e, q⟩ => ⟨o, lent_ow.trans ho, by rw [e]; exact q⟩
        | _ => obtain ⟨o, ho, d, e, q⟩ := hr; cases e <;> exact ⟨o, lent_ow.trans ho, q⟩
    · apply xSkip rfl
      · have e : decide (((j : Nat) : Int) < ((ns.length : Nat) : Int)) = false := decide_eq_false (by omega)
        simp! [e]
      exact wp_mono (fin j 0 (Int.le_refl 0)) fun r hr => by
        obtain ⟨f, en⟩ := r
        cases f with
        | nx => exact wp_mono hr fun r ⟨o, ho, d, e, q⟩ => ⟨o, lent_ow.trans ho, by rw [e]; exact q⟩
        | _ => obtain ⟨o, ho, d, e, q⟩ := hr; cases e <;> exact ⟨o, lent_ow.trans ho, q⟩
  · intro hb
    apply xNil
    show wp _ _
    have hb := of_decide_eq_false hb
    apply xSet rfl rfl
    · simp! []
      rfl
    · simp! []
      rfl
    · rfl
    · exact put2
    apply xRet; apply wpE rfl
    · simp! []
      rfl
    exact ⟨_, rfl, _, _, rfl, Int.emod_nonneg _ (by omega), Int.emod_lt_of_pos _ h1, j, _, s, rfl, Int.ediv_nonneg b0 (by omega), s0, s1⟩
theorem st0_ok (ns : List Int) {s : Int} (h : 0 ≤ s ∧ s < 2147483648) : StOk ns [.lst (ns.map .int), .int 0, .int 0, .int s] := ⟨0, 0, s, rfl, Int.le_refl 0, h⟩
/-- a def that no list is lent to, told by what its value is like -/
theorem fn_ex {G : List D} {fns : List Fn} {fn : Fn} {k i : Nat} {sl : List Slot} {R : D → Prop} (hf : fns[i]? = some fn) (hio : okArgs fn.own fn.io sl = true) (hz : allFz sl = true) (ho : fn.own = .dat)
    (h : wp (exB (tab G fns k) G fn.body (sl ++ List.replicate (fn.slots - fn.io.length) .no)) fun r => ∃ d, r.1 = .ret d ∧ R d ∧ sl.length ≤ r.2.length) : ∃ d, R d ∧ tab G fns (k + 1) i sl = .ok (d, []) := by
  have := wp_fn (R := fun r => R r.1 ∧ r.2 = []) hf hio (wp_mono h fun r hr => by
    obtain ⟨d, e, q, l⟩ := hr
    refine ⟨[], lent_fz hz l, ?_⟩
    rw [e, ho]
    exact ⟨q, rfl⟩)
  obtain ⟨⟨d, o⟩, e, q, l⟩ := this
  cases l
  exact ⟨d, q, e⟩
end Vi

/-! Vi, part 32: draws of the later laws in short; what is asked. -/
namespace Vi
open PySem
theorem ask_ok {ak : AK} {hs : List (List Nat × HR)} {q : D × List (List D)} : askR ak hs (.ok q) = .ok (akD ak q.1) := by rfl -- vi
theorem akD_p {s : Str} {d : D} : akD (.pair s) d = .tup [.str s, d] := by rfl -- vi
theorem akD_u {s : Str} {d : D} : akD (.unit s) d = .tup [.str s, .non] := by rfl -- vi
theorem ofC_n : ofC none = [] := by rfl -- vi
theorem ofC_s {c : Nat} : ofC (some c) = [.slf c] := by rfl -- vi
theorem ms_om {r : List (List D)} : maskS (.om r) = .no := by rfl -- vi
/-- a draw -/
theorem wpNext {G : List D} {fns : List Fn} {f k t : Nat} {ns : List Int} {en : En} {st : List D} {e : Ex} {lim : Int} {R : D × En → Prop} (hf : fns[f]? = some fNext) (hn : ns.length ≤ 63) (h1 : getS en t = .ow st) (hs : StOk ns st) (hp : (pureE e && !isB e) = true) (h2 : pv (tab G fns (k + 1)) G e en = .ok (.int lim))
    (l1 : 0 < lim) (l2 : lim < 1073741824) (h : ∀ (v : Nat) (st' : List D), ((v : Nat) : Int) < lim → StOk ns st' → R (.int ((v : Nat) : Int), en.set t (.ow st'))) : wp (ev (tab G fns (k + 1)) G (.call f (.cons (.bvar t) (.cons e .nil))) en) R := by
  rw [Bool.and_eq_true] at hp
  have hp1 : pureA (.cons e .nil) = true := by unfold pureA pureA; rw [hp.1]; rfl
  have hb1 : noB (.cons e .nil) = true := by unfold noB noB; rw [hp.2]; rfl
  refine wpCall (ds := [.int lim]) hp1 hb1 h1 (by unfold pvs; rw [h2]; rfl) ?_
  refine wp_mono (next_ok (k := k) hf hn hs l1 l2) ?_
  rintro _ ⟨v, st', rfl, v0, v1, hs'⟩
  obtain ⟨n, rfl⟩ := Int.eq_ofNat_of_zero_le v0
  exact ⟨_, _, rfl, h n st' v1 hs'⟩
theorem wpPop {P : Tb} {G : List D} {en : En} {R : D × En → Prop} {i : Nat} {xs : List D} {x : D} (h1 : getS en i = .ow (xs ++ [x])) (q : R (x, en.set i (.ow xs))) : wp (ev P G (.pop i false) en) R := by
  unfold ev
  rw [h1]
  dsimp only
  rw [if_neg (by simp), List.getLast?_concat, List.dropLast_concat]
  exact wp_ok q
end Vi

/-! Vi, part 33: max(l, key=..) of items whose keys are pairs of numbers. -/
namespace Vi
open PySem
theorem mapRes_map {α : Type} {e : α → D} {f : D → Res D} {k : α → D} : ∀ {l : List α}, (∀ x ∈ l, f (e x) = .ok (k x)) → mapRes f (l.map e) = .ok (l.map k) := by
  intro l
  induction l with
  | nil => exact fun _ => rfl
  | cons x l ih =>
    intro h
    rw [List.map_cons, List.map_cons]
    unfold mapRes
    rw [h x List.mem_cons_self, bOk, ih fun y hy => h y (List.mem_cons_of_mem _ hy), bOk]
    rfl
theorem bestK_ok {p : Nat → PyData} {lt : Nat → Nat → Prop} : ∀ {n : Nat}, (∀ i j, i < n → j < n → (ltP (p i) (p j) = true ↔ lt i j)) → (∀ i j k, i < n → j < n → k < n → ¬ lt i j → ¬ lt j k → ¬ lt i k) → (∀ i j, i < n → j < n → lt i j → ¬ lt j i) → 0 < n → bestK p n < n ∧ ∀ i, i < n → ¬ lt (bestK p n) i := by
  intro n
  induction n with
  | zero => intro _ _ _ h; omega
  | succ n ih =>
    intro h1 h2 h3 _
    have ir : ∀ i, i < n + 1 → ¬ lt i i := fun i hi z => h3 i i hi hi z z
    by_cases h0 : n = 0
    · subst h0
      refine ⟨by show (if (0 : Nat) = 0 then 0 else _) < 1; rw [if_pos rfl]; omega, fun i hi => ?_⟩
      have : i = 0 := by omega
      subst this
      show ¬ lt (if (0 : Nat) = 0 then 0 else _) 0
      rw [if_pos rfl]
      exact ir 0 (by omega)
    · obtain ⟨i1, i2⟩ := ih (fun i j hi hj => h1 i j (by omega) (by omega)) (fun i j k hi hj hk => h2 i j k (by omega) (by omega) (by omega)) (fun i j hi hj => h3 i j (by omega) (by omega)) (by omega)
      have e : bestK p (n + 1) = if ltP (p (bestK p n)) (p n) = true then n else bestK p n := by
        show (if n = 0 then 0 else _) = _
        rw [if_neg h0]
      rw [e]
      by_cases hl : ltP (p (bestK p n)) (p n) = true
      · rw [if_pos hl]
        have hlt := (h1 _ _ (by omega) (by omega)).mp hl
        refine ⟨by omega, fun i hi => ?_⟩
        by_cases hin : i = n
        · rw [hin]; exact ir n (by omega)
        · exact h2 n (bestK p n) i (by omega) (by omega) hi (h3 _ _ (by omega) (by omega) hlt) (i2 i (by omega))
      · rw [if_neg hl]
        refine ⟨by omega, fun i hi => ?_⟩
        by_cases hin : i = n
        · rw [hin]
          exact fun z => hl ((h1 _ _ (by omega) (by omega)).mpr z)
        · exact i2 i (by omega)
theorem two_lt (p q : Int × Int) : ltP (.tuple [.int p.1, .int p.2]) (.tuple [.int q.1, .int q.2]) = lt2 p q := by
  simp only [ltP, ltPs, eqv_int, decide_eq_true_eq, lt2]
  by_cases h : p.1 = q.1 <;> by_cases h2 : p.2 = q.2 <;> simp [h, h2]
theorem two_toP (a b : Int) : toP (.tup [.int a, .int b]) = some (.tuple [.int a, .int b]) := by rfl
theorem two_toPs {α : Type} (g : α → Int × Int) : ∀ l : List α, toPs (l.map fun x => D.tup [.int (g x).1, .int (g x).2]) = some (l.map fun x => PyData.tuple [.int (g x).1, .int (g x).2])
  | [] => rfl
  | x :: l => by
    rw [List.map_cons, List.map_cons]
    unfold toPs
    rw [two_toP, two_toPs g l]
/-- the greatest of pairs, the first of like ones -/
theorem kmaxD_two {α : Type} {e : α → D} {f : D → List D → Res D} {g : α → Int × Int} {cs : List D} {l : List α} (hf : ∀ x ∈ l, f (e x) cs = .ok (.tup [.int (g x).1, .int (g x).2])) (hne : l ≠ []) :
    ∃ x ∈ l, kmaxD (some cs) f (.lst (l.map e)) = .ok (e x) ∧ ∀ y ∈ l, lt2 (g x) (g y) = false := by
  obtain ⟨ps, hps⟩ : ∃ ps, ps = l.map fun x => PyData.tuple [.int (g x).1, .int (g x).2] := ⟨_, rfl⟩
  have htp := two_toPs g l
  rw [← hps] at htp
  have hlen : 0 < l.length := List.length_pos_iff.mpr hne
  have hpl : ps.length = l.length := by rw [hps, List.length_map]
  have hpi : ∀ i (hi : i < l.length), ps.getD i .none = PyData.tuple [.int (g l[i]).1, .int (g l[i]).2] := fun i hi => by
    rw [List.getD_eq_getElem?_getD, hps, List.getElem?_map, List.getElem?_eq_getElem hi]
    rfl
  have hok : okSort ps = true := by
    unfold okSort
    simp only [Bool.and_eq_true, Bool.or_eq_true]
    refine ⟨⟨?_, .inl ?_⟩, ?_⟩
    · cases hq : ps with
      | nil => rfl
      | cons p r =>
        unfold allLike
        rw [Bool.or_eq_true]
        left
        rw [List.all_eq_true]
        intro x hx
        rw [← hq, hps] at hx
        have hp : p ∈ ps := by rw [hq]; exact List.mem_cons_self
        rw [hps] at hp
        obtain ⟨u, _, rfl⟩ := List.mem_map.mp hx
        obtain ⟨v, _, rfl⟩ := List.mem_map.mp hp
        rfl
    · rw [hps, List.all_map]
      exact List.all_eq_true.mpr fun _ _ => rfl
    · rw [hps, List.all_map]
      exact List.all_eq_true.mpr fun _ _ => by simp [SeqAt.shaped, PyData.canLay0, PyData.canLayAll0, PyData.depth, PyData.depthAll]
  have hlt : ∀ i j (hi : i < l.length) (hj : j < l.length), ltP (ps.getD i .none) (ps.getD j .none) = lt2 (g l[i]) (g l[j]) := fun i j hi hj => by
    rw [hpi i hi, hpi j hj]
    exact two_lt _ _
  obtain ⟨b1, b2⟩ := bestK_ok (p := fun i => ps.getD i .none) (n := l.length) (lt := fun i j => ∃ (hi : i < l.length) (hj : j < l.length), lt2 (g l[i]) (g l[j]) = true) (fun i j hi hj => by rw [hlt i j hi hj]; exact ⟨fun h => ⟨hi, hj, h⟩, fun ⟨_, _, h⟩ => h⟩)
    (fun i j k hi hj hk h1 h2 ⟨_, _, h3⟩ => by
      have n1 : ¬ (lt2 (g l[i]) (g l[j]) = true) := fun z => h1 ⟨hi, hj, z⟩
      have n2 : ¬ (lt2 (g l[j]) (g l[k]) = true) := fun z => h2 ⟨hj, hk, z⟩
      rw [lt2_iff] at n1 n2 h3
      omega)
    (fun i j hi hj ⟨_, _, h1⟩ ⟨_, _, h2⟩ => by
      rw [lt2_iff] at h1 h2
      omega) hlen
  refine ⟨l[bestK (fun i => ps.getD i .none) l.length], List.getElem_mem b1, ?_, fun y hy => ?_⟩
  · show (mapRes (fun d => f d cs) (l.map e) >>= fun ks => match maxKey (l.map e) ks with
      | some m => Res.ok m
      | none => .bad) = _
    rw [mapRes_map (k := fun x => .tup [.int (g x).1, .int (g x).2]) hf, bOk]
    unfold maxKey
    rw [htp]
    dsimp only
    rw [if_pos ⟨hok, by simp⟩, List.length_map, List.getElem?_map, List.getElem?_eq_getElem b1]
    rfl
  · obtain ⟨i, hi, rfl⟩ := List.getElem_of_mem hy
    cases h : lt2 (g l[bestK (fun i => ps.getD i .none) l.length]) (g l[i]) with
    | false => rfl
    | true => exact absurd ⟨b1, hi, h⟩ (b2 i hi)
theorem leastAt_ok {p : Nat → PyData} {lt : Nat → Nat → Prop} : ∀ {n : Nat}, (∀ i j, i ≤ n → j ≤ n → (ltP (p i) (p j) = true ↔ lt i j)) → (∀ i j k, i ≤ n → j ≤ n → k ≤ n → ¬ lt i j → ¬ lt j k → ¬ lt i k) → (∀ i j, i ≤ n → j ≤ n → lt i j → ¬ lt j i) → leastAt p n ≤ n ∧ ∀ i, i ≤ n → ¬ lt i (leastAt p n) := by
  intro n
  induction n with
  | zero =>
    intro h1 h2 h3
    refine ⟨Nat.le_refl _, fun i hi => ?_⟩
    have : i = 0 := by omega
    subst this
    exact fun z => h3 0 0 (Nat.le_refl _) (Nat.le_refl _) z z
  | succ n ih =>
    intro h1 h2 h3
    have ir : ∀ i, i ≤ n + 1 → ¬ lt i i := fun i hi z => h3 i i hi hi z z
    obtain ⟨i1, i2⟩ := ih (fun i j hi hj => h1 i j (by omega) (by omega)) (fun i j k hi hj hk => h2 i j k (by omega) (by omega) (by omega)) (fun i j hi hj => h3 i j (by omega) (by omega))
    have e : leastAt p (n + 1) = if ltP (p (n + 1)) (p (leastAt p n)) = true then n + 1 else leastAt p n := rfl
    rw [e]
    by_cases hl : ltP (p (n + 1)) (p (leastAt p n)) = true
    · rw [if_pos hl]
      have hlt := (h1 _ _ (by omega) (by omega)).mp hl
      refine ⟨by omega, fun i hi => ?_⟩
      by_cases hin : i = n + 1
      · rw [hin]; exact ir _ (by omega)
      · exact h2 i (leastAt p n) (n + 1) hi (by omega) (by omega) (i2 i (by omega)) (h3 _ _ (by omega) (by omega) hlt)
    · rw [if_neg hl]
      refine ⟨by omega, fun i hi => ?_⟩
      by_cases hin : i = n + 1
      · rw [hin]; exact fun z => hl ((h1 _ _ (by omega) (by omega)).mpr z)
      · exact i2 i (by omega)
/-- min of a row of pairs: one that none is below -/
theorem f_minTwo {α : Type} {g : α → Int × Int} {l : List α} (hl : l ≠ []) : ∃ x ∈ l, bfn .min1 [.lst (l.map fun a => .tup [.int (g a).1, .int (g a).2])] = .ok (.tup [.int (g x).1, .int (g x).2]) ∧ ∀ y ∈ l, lt2 (g y) (g x) = false := by
  have hpos : 0 < l.length := List.length_pos_iff.mpr hl
  have ht : toPs (l.map fun a => D.tup [.int (g a).1, .int (g a).2]) = some (l.map fun a => PyData.tuple [.int (g a).1, .int (g a).2]) := two_toPs g l
  have gd : ∀ i, (hi : i < l.length) → (l.map fun a => PyData.tuple [.int (g a).1, .int (g a).2]).getD i .none = PyData.tuple [.int (g l[i]).1, .int (g l[i]).2] := fun i hi => by
    rw [List.getD_eq_getElem?_getD, List.getElem?_map, List.getElem?_eq_getElem hi]; rfl
  have key := leastAt_ok (p := fun i => (l.map fun a => PyData.tuple [.int (g a).1, .int (g a).2]).getD i .none) (lt := fun i j => ∃ hi : i < l.length, ∃ hj : j < l.length, lt2 (g l[i]) (g l[j]) = true) (n := l.length - 1) (fun i j hi hj => by
    rw [gd i (by omega), gd j (by omega), two_lt]
    exact ⟨fun h => ⟨by omega, by omega, h⟩, fun ⟨_, _, h⟩ => h⟩) (fun i j k hi hj hk a b ⟨z1, z2, z⟩ => by
    have a' : ¬ (lt2 (g l[i]) (g l[j]) = true) := fun q => a ⟨by omega, by omega, q⟩
    have b' : ¬ (lt2 (g l[j]) (g l[k]) = true) := fun q => b ⟨by omega, by omega, q⟩
    rw [lt2_iff] at a' b' z
    omega) (fun i j hi hj ⟨_, _, a⟩ ⟨_, _, b⟩ => by
    rw [lt2_iff] at a b
    omega)
  obtain ⟨k1, k2⟩ := key
  generalize hm : leastAt (fun i => (l.map fun a => PyData.tuple [.int (g a).1, .int (g a).2]).getD i .none) (l.length - 1) = m at k1 k2
  have hml : m < l.length := by omega
  refine ⟨l[m], List.getElem_mem _, ?_, fun y hy => ?_⟩
  · have hn : ∀ n, intsD (l.map fun a => D.tup [.int (g a).1, .int (g a).2]) ≠ .ok n := fun n => by
      cases l with
      | nil => exact absurd rfl hl
      | cons a l => intro z; cases z
    have ho : okSort (l.map fun a => PyData.tuple [.int (g a).1, .int (g a).2]) = true := by
      have := (SortOk.two).sort (l.map g)
      rw [List.map_map] at this
      unfold sortD at this
      rw [show (l.map ((fun p : Int × Int => D.tup [.int p.1, .int p.2]) ∘ g)) = l.map fun a => D.tup [.int (g a).1, .int (g a).2] from rfl, ht] at this
      dsimp only at this
      split at this
      · assumption
      · cases this
    show minR false _ = _
    unfold minR
    split
    · rename_i z
      exact absurd z (hn _)
    · unfold rowAt
      rw [ht]
      dsimp only
      rw [if_pos ⟨ho, List.all_eq_true.mpr fun d hd => by obtain ⟨_, _, rfl⟩ := List.mem_map.mp hd; rfl⟩]
      simp only [Bool.false_eq_true, if_false, List.length_map]
      rw [hm, List.getElem?_map, List.getElem?_eq_getElem hml]
      rfl
  · obtain ⟨i, hi, rfl⟩ := List.getElem_of_mem hy
    rw [← Bool.not_eq_true]
    exact fun z => k2 i (by omega) ⟨hi, hml, z⟩
end Vi

/-! stretches covered: the fewest by reaching farthest. Plain mathematics. -/
namespace SC
section
variable (a b : Nat → Int)
def cov (k : Nat) (t : Int) : Prop := a k ≤ t ∧ t < b k
/-- all times from lo to hi have one of these -/
def Covers (S : List Nat) (lo hi : Int) : Prop := ∀ t, lo ≤ t → t < hi → ∃ k ∈ S, cov a b k t
/-- taken one after another: k has the time now, and of those that have it reaches farthest -/
inductive Greedy (n : Nat) (hi : Int) : Int → List Nat → Prop where
  | done {now : Int} : hi ≤ now → Greedy n hi now []
  | step {now : Int} {k : Nat} {l : List Nat} : now < hi → k < n → cov a b k now → (∀ j, j < n → cov a b j now → b j < b k ∨ b j = b k ∧ k ≤ j) → Greedy n hi (b k) l → Greedy n hi now (k :: l)
end
variable {a b : Nat → Int} {n : Nat} {hi : Int}
theorem Greedy.covers {now : Int} {l : List Nat} (g : Greedy a b n hi now l) : Covers a b l now hi := by
  induction g with
  | done h => intro t h1 h2; omega
  | @step now k l h hk hc hm g ih =>
    intro t h1 h2
    by_cases ht : t < b k
    · exact ⟨k, List.mem_cons_self, Int.le_trans hc.1 h1, ht⟩
    · obtain ⟨j, hj, hcj⟩ := ih t (by omega) h2
      exact ⟨j, List.mem_cons_of_mem _ hj, hcj⟩
theorem Greedy.ends {now : Int} {l : List Nat} (g : Greedy a b n hi now l) : ∀ k ∈ l, now < b k ∧ k < n := by
  induction g with
  | done h => exact fun _ h => nomatch h
  | @step now k l h hk hc hm g ih =>
    intro j hj
    rcases List.mem_cons.mp hj with rfl | hj
    · exact ⟨hc.2, hk⟩
    · have := ih j hj
      have := hc.2
      exact ⟨by omega, (ih j hj).2⟩
theorem Greedy.nodup {now : Int} {l : List Nat} (g : Greedy a b n hi now l) : l.Nodup := by
  induction g with
  | done h => exact List.nodup_nil
  | @step now k l h hk hc hm g ih =>
    refine List.nodup_cons.mpr ⟨fun hj => ?_, ih⟩
    have := (g.ends k hj).1
    omega
theorem Greedy.least {now : Int} {l : List Nat} (g : Greedy a b n hi now l) : ∀ S : List Nat, (∀ k ∈ S, k < n) → Covers a b S now hi → l.length ≤ S.length := by
  induction g with
  | done h => intro S _ _; exact Nat.zero_le _
  | @step now k l h hk hc hm g ih =>
    intro S hS hcov
    obtain ⟨k0, hk0, hc0⟩ := hcov now (Int.le_refl _) h
    have hb := hm k0 (hS k0 hk0) hc0
    have := ih (S.erase k0) (fun j hj => hS j (List.mem_of_mem_erase hj)) (fun t h1 h2 => by
      obtain ⟨j, hj, hcj⟩ := hcov t (by have := hc.2; omega) h2
      have hne : j ≠ k0 := fun z => by rw [z] at hcj; have := hcj.2; omega
      exact ⟨j, (List.mem_erase_of_ne hne).mpr hj, hcj⟩)
    rw [List.length_erase_of_mem hk0] at this
    have := List.length_pos_of_mem hk0
    rw [List.length_cons]
    omega
/-- a time that none has: no cover -/
theorem no_cover {lo : Int} {t : Int} (h1 : lo ≤ t) (h2 : t < hi) (h : ∀ k, k < n → ¬ cov a b k t) (S : List Nat) (hS : ∀ k ∈ S, k < n) : ¬ Covers a b S lo hi := fun hc => by
  obtain ⟨k, hk, hck⟩ := hc t h1 h2
  exact h k (hS k hk) hck
/-- numbers as sets: each set has one -/
theorem mask_of (p : Nat → Bool) : ∀ n : Nat, ∃ m : Nat, m < 2 ^ n ∧ ∀ k, k < n → (m / 2 ^ k % 2 = 1 ↔ p k = true) := by
  intro n
  induction n with
  | zero => exact ⟨0, by decide, fun k h => by omega⟩
  | succ n ih =>
    obtain ⟨m, h1, h2⟩ := ih
    have hp : 2 ^ (n + 1) = 2 * 2 ^ n := by rw [Nat.pow_succ, Nat.mul_comm]
    cases hpn : p n with
    | false =>
      refine ⟨m, by omega, fun k hk => ?_⟩
      by_cases e : k = n
      · subst e
        rw [Nat.div_eq_of_lt h1, hpn]
        simp
      · exact h2 k (by omega)
    | true =>
      refine ⟨m + 2 ^ n, by omega, fun k hk => ?_⟩
      by_cases e : k = n
      · subst e
        rw [Nat.add_div_right _ (Nat.two_pow_pos k), Nat.div_eq_of_lt h1, hpn]
        simp
      · have hkn : k < n := by omega
        rw [← h2 k hkn]
        have e2 : 2 ^ n = 2 ^ k * (2 * 2 ^ (n - k - 1)) := by
          rw [← Nat.pow_succ', ← Nat.pow_add]
          congr 1; omega
        rw [e2, Nat.add_mul_div_left _ _ (Nat.two_pow_pos k), Nat.add_mul_mod_self_left]
theorem len_nodup {n : Nat} : ∀ {l : List Nat}, l.Nodup → (∀ k ∈ l, k < n) → ((List.range n).filter fun k => decide (k ∈ l)).length = l.length := by
  induction n with
  | zero =>
    intro l _ h
    cases l with
    | nil => rfl
    | cons k l => have := h k List.mem_cons_self; omega
  | succ n ih =>
    intro l nd h
    rw [List.range_succ, List.filter_append]
    by_cases hn : n ∈ l
    · have e1 : [n].filter (fun k => decide (k ∈ l)) = [n] := List.filter_cons_of_pos (by simpa using hn)
      have e2 : (List.range n).filter (fun k => decide (k ∈ l)) = (List.range n).filter fun k => decide (k ∈ l.erase n) := List.filter_congr fun k hk => by
        have := List.mem_range.mp hk
        exact decide_eq_decide.mpr (List.mem_erase_of_ne (by omega)).symm
      rw [e1, e2, List.length_append, ih (nd.erase n) (fun k hk => by
        have h1 := h k (List.mem_of_mem_erase hk)
        have : k ≠ n := fun z => by rw [z] at hk; exact (List.Nodup.not_mem_erase nd) hk
        omega), List.length_erase_of_mem hn]
      have := List.length_pos_of_mem hn
      simp; omega
    · have e1 : [n].filter (fun k => decide (k ∈ l)) = [] := List.filter_cons_of_neg (by simpa using hn)
      rw [e1, List.append_nil]
      exact ih nd fun k hk => by
        have h1 := h k hk
        have : k ≠ n := fun z => hn (z ▸ hk)
        omega
end SC

/-! stretches apart from one another are told by what they cover. Plain mathematics. -/
namespace SC
abbrev P := Int × Int
def inP (p : P) (t : Int) : Prop := p.1 ≤ t ∧ t < p.2
def inL (l : List P) (t : Int) : Prop := ∃ p ∈ l, inP p t
structure Sep (l : List P) : Prop where
  ne : ∀ p ∈ l, p.1 < p.2
  ap : l.Pairwise fun p q => p.2 < q.1
theorem Sep.tail {p : P} {l : List P} (h : Sep (p :: l)) : Sep l := ⟨fun q hq => h.ne q (List.mem_cons_of_mem _ hq), (List.pairwise_cons.mp h.ap).2⟩
theorem Sep.head {p : P} {l : List P} (h : Sep (p :: l)) : p.1 < p.2 ∧ ∀ q ∈ l, p.2 < q.1 := ⟨h.ne p List.mem_cons_self, (List.pairwise_cons.mp h.ap).1⟩
theorem inL_cons {p : P} {l : List P} {t : Int} : inL (p :: l) t ↔ inP p t ∨ inL l t := by
  unfold inL
  simp
theorem Sep.after {p : P} {l : List P} (h : Sep (p :: l)) {t : Int} (ht : inL l t) : p.2 < t := by
  obtain ⟨q, hq, a, b⟩ := ht
  have := h.head.2 q hq
  omega
theorem Sep.tail_iff {p : P} {l : List P} (h : Sep (p :: l)) {t : Int} : inL l t ↔ inL (p :: l) t ∧ p.2 ≤ t := by
  rw [inL_cons]
  constructor
  · exact fun z => ⟨.inr z, Int.le_of_lt (h.after z)⟩
  · rintro ⟨a | a, b⟩
    · have := a.2; omega
    · exact a
theorem Sep.start {p q : P} {l m : List P} (h : Sep (p :: l)) (h2 : Sep (q :: m)) (e : ∀ t, inL (p :: l) t → inL (q :: m) t) : q.1 ≤ p.1 := by
  have h0 := h2.head.1
  rcases inL_cons.mp (e p.1 (inL_cons.mpr (.inl ⟨Int.le_refl _, h.head.1⟩))) with a | a
  · exact a.1
  · have := h2.after a
    omega
theorem Sep.stop {p q : P} {l m : List P} (h : Sep (p :: l)) (h2 : Sep (q :: m)) (e : ∀ t, inL (q :: m) t → inL (p :: l) t) (es : q.1 ≤ p.1) : q.2 ≤ p.2 := by
  have h0 := h.head.1
  by_cases c : q.2 ≤ p.2
  · exact c
  · rcases inL_cons.mp (e p.2 (inL_cons.mpr (.inl ⟨by omega, by omega⟩))) with a | a
    · have := a.2; omega
    · have := h.after a; omega
theorem sep_unique : ∀ {l m : List P}, Sep l → Sep m → (∀ t, inL l t ↔ inL m t) → l = m
  | [], [], _, _, _ => rfl
  | [], q :: m, _, h2, e => by
    obtain ⟨p, hp, _⟩ := (e q.1).mpr (inL_cons.mpr (.inl ⟨Int.le_refl _, h2.head.1⟩))
    cases hp
  | p :: l, [], h, _, e => by
    obtain ⟨q, hq, _⟩ := (e p.1).mp (inL_cons.mpr (.inl ⟨Int.le_refl _, h.head.1⟩))
    cases hq
  | p :: l, q :: m, h, h2, e => by
    have a1 := h.start h2 fun t => (e t).mp
    have a2 := h2.start h fun t => (e t).mpr
    have b1 := h.stop h2 (fun t => (e t).mpr) a1
    have b2 := h2.stop h (fun t => (e t).mp) a2
    have e1 : p = q := Prod.ext (by omega) (by omega)
    subst e1
    rw [sep_unique h.tail h2.tail fun t => by rw [h.tail_iff, h2.tail_iff, e t]]
theorem Sep.snoc {l : List P} {p : P} (h : Sep l) (hp : p.1 < p.2) (ha : ∀ q ∈ l, q.2 < p.1) : Sep (l ++ [p]) := ⟨fun q hq => by
  rcases List.mem_append.mp hq with hq | hq
  · exact h.ne q hq
  · rw [List.mem_singleton.mp hq]; exact hp, List.pairwise_append.mpr ⟨h.ap, List.pairwise_singleton _ _, fun q hq r hr => by rw [List.mem_singleton.mp hr]; exact ha q hq⟩⟩
theorem Sep.init {l : List P} {p : P} (h : Sep (l ++ [p])) : Sep l ∧ p.1 < p.2 ∧ ∀ q ∈ l, q.2 < p.1 := by
  obtain ⟨a, b, c⟩ := List.pairwise_append.mp h.ap
  exact ⟨⟨fun q hq => h.ne q (List.mem_append_left _ hq), a⟩, h.ne p (List.mem_append_right _ (List.mem_singleton_self _)), fun q hq => c q hq p (List.mem_singleton_self _)⟩
theorem inL_snoc {p : P} {l : List P} {t : Int} : inL (l ++ [p]) t ↔ inL l t ∨ inP p t := by
  unfold inL
  constructor
  · rintro ⟨q, hq, a⟩
    rcases List.mem_append.mp hq with hq | hq
    · exact .inl ⟨q, hq, a⟩
    · rw [List.mem_singleton.mp hq] at a; exact .inr a
  · rintro (⟨q, hq, a⟩ | a)
    · exact ⟨q, List.mem_append_left _ hq, a⟩
    · exact ⟨p, List.mem_append_right _ (List.mem_singleton_self _), a⟩
end SC

namespace K70
open PySem Vi
/-! the defs of the text, as terms -/
def topS (i : Nat) : Stmt := PySem.Challenge.pw_loosetimes_k70_whole_stretches_covered.main.body.getD i (.Pass ⟨0, 0, 0, 0⟩)
def f_fewest_to_cover : Fn := ⟨[false, false, false], .dat, 7, (.cons (.asgO 3 (.lst .nil)) (.cons (.asg 4 (.var 1)) (.cons (.whl (.cmp .lt (.var 4) (.var 2)) (.cons (.asgO 5 (.lc [6] (.v 6) .rng1 (.cons (.blt .len (.cons (.var 0) .nil)) .nil) (.cons (.chain .le .lt (.sub (.sub (.var 0) (.var 6)) (.int 0)) (.var 4) (.sub (.sub (.var 0) (.var 6)) (.int 1))) .nil) (.var 6))) (.cons (.fz 5) (.cons (.ife (.cmp .eq (.var 5) (.lst .nil)) (.cons (.ret .non) .nil) .nil) (.cons (.asg 6 (.kmax (.var 5) [0] ["k", "spans"] (.tup (.cons (.sub (.sub (.var 1) (.var 0)) (.int 1)) (.cons (.bin .sub (.int 0) (.var 0)) .nil))))) (.cons (.app 3 (.var 6)) (.cons (.asg 4 (.sub (.sub (.var 0) (.var 6)) (.int 1))) .nil))))))) (.cons (.fz 3) (.cons (.ret (.var 3)) .nil)))))⟩
def f_missed_time : Fn := ⟨[false, false, false, false], .dat, 6, (.cons (.forr (.v 4) .rng2 (.cons (.var 2) (.cons (.var 3) .nil)) (.cons (.ife (.not (.blt .any (.cons (.lc [5] (.v 5) .seq (.cons (.var 1) .nil) .nil (.chain .le .lt (.sub (.sub (.var 0) (.var 5)) (.int 0)) (.var 4) (.sub (.sub (.var 0) (.var 5)) (.int 1)))) .nil))) (.cons (.ret (.var 4)) .nil) .nil) .nil)) (.cons (.ret .non) .nil))⟩
def f_merged_spans : Fn := ⟨[false], .dat, 4, (.cons (.asgO 1 (.lst .nil)) (.cons (.forr (.t [2, 3]) .seq (.cons (.blt .sorted (.cons (.var 0) .nil)) .nil) (.cons (.ife (.and (.cmp .ne (.bvar 1) (.lst .nil)) (.cmp .le (.var 2) (.sub (.sub (.bvar 1) (.neg (.int 1))) (.int 1)))) (.cons (.setI 1 (.neg (.int 1)) (.tup (.cons (.sub (.sub (.bvar 1) (.neg (.int 1))) (.int 0)) (.cons (.blt .max2 (.cons (.sub (.sub (.bvar 1) (.neg (.int 1))) (.int 1)) (.cons (.var 3) .nil))) .nil)))) .nil) (.cons (.app 1 (.tup (.cons (.var 2) (.cons (.var 3) .nil)))) .nil)) .nil)) (.cons (.fz 1) (.cons (.ret (.var 1)) .nil))))⟩
def f_gaps_between : Fn := ⟨[false, false, false], .dat, 7, (.cons (.asgO 3 (.lst .nil)) (.cons (.asg 4 (.var 1)) (.cons (.forr (.t [5, 6]) .seq (.cons (.call 2 (.cons (.var 0) .nil)) .nil) (.cons (.ife (.and (.cmp .gt (.var 5) (.var 4)) (.cmp .lt (.var 4) (.var 2))) (.cons (.app 3 (.tup (.cons (.var 4) (.cons (.blt .min2 (.cons (.var 5) (.cons (.var 2) .nil))) .nil)))) .nil) .nil) (.cons (.asg 4 (.blt .max2 (.cons (.var 4) (.cons (.var 6) .nil)))) .nil))) (.cons (.ife (.cmp .lt (.var 4) (.var 2)) (.cons (.app 3 (.tup (.cons (.var 4) (.cons (.var 2) .nil)))) .nil) .nil) (.cons (.fz 3) (.cons (.ret (.var 3)) .nil))))))⟩
def f__law_next : Fn := ⟨[true, false], .dat, 4, (.cons (.asg 2 (.sub (.bvar 0) (.int 2))) (.cons (.ife (.cmp .eq (.var 2) (.int 0)) (.cons (.asg 3 (.int 0)) (.cons (.ife (.cmp .lt (.sub (.bvar 0) (.int 1)) (.blt .len (.cons (.sub (.bvar 0) (.int 0)) .nil))) (.cons (.asg 3 (.blt .abs (.cons (.blt .int (.cons (.sub (.sub (.bvar 0) (.int 0)) (.sub (.bvar 0) (.int 1))) .nil)) .nil))) (.cons (.setI 0 (.int 1) (.bin .add (.sub (.bvar 0) (.int 1)) (.int 1))) .nil)) .nil) (.cons (.asg 2 (.var 3)) (.cons (.ife (.cmp .lt (.var 3) (.bin .pow (.int 10) (.int 18))) (.cons (.setI 0 (.int 3) (.bin .mod (.blt .int (.cons (.bin .add (.bin .add (.bin .mul (.sub (.bvar 0) (.int 3)) (.int 69621)) (.bin .mul (.var 3) (.int 40692))) (.int 17)) .nil)) (.int 2147483647))) (.cons (.ret (.bin .mod (.bin .mod (.blt .int (.cons (.bin .mul (.blt .int (.cons (.bin .fdiv (.sub (.bvar 0) (.int 3)) (.int 5)) .nil)) (.int 48271)) .nil)) (.int 2147483647)) (.var 1))) .nil)) .nil) .nil)))) .nil) (.cons (.setI 0 (.int 2) (.bin .fdiv (.var 2) (.var 1))) (.cons (.ret (.bin .mod (.blt .int (.cons (.var 2) .nil)) (.var 1))) .nil))))⟩
def f__law_same : Fn := ⟨[false, false], .dat, 3, (.cons (.ife (.cmp .is (.var 1) .non) (.cons (.ret (.cmp .is (.var 0) .non)) .nil) .nil) (.cons (.ife (.isi (.var 1) .bool) (.cons (.ret (.and (.isi (.var 0) .bool) (.cmp .eq (.var 0) (.var 1)))) .nil) .nil) (.cons (.ife (.isi (.var 1) .int) (.cons (.ret (.and (.isi (.var 0) .int) (.and (.not (.isi (.var 0) .bool)) (.cmp .eq (.var 0) (.var 1))))) .nil) .nil) (.cons (.ife (.isi (.var 1) .str) (.cons (.ret (.and (.isi (.var 0) .str) (.cmp .eq (.var 0) (.var 1)))) .nil) .nil) (.cons (.ife (.or (.and (.isi (.var 1) .list) (.not (.isi (.var 0) .list))) (.and (.isi (.var 1) .tuple) (.not (.isi (.var 0) .tuple)))) (.cons (.ret (.bl false)) .nil) .nil) (.cons (.ret (.and (.cmp .eq (.blt .len (.cons (.var 0) .nil)) (.blt .len (.cons (.var 1) .nil))) (.cmp .eq (.lc [2] (.v 2) .rng1 (.cons (.blt .len (.cons (.var 1) .nil)) .nil) (.cons (.not (.call 5 (.cons (.sub (.var 0) (.var 2)) (.cons (.sub (.var 1) (.var 2)) .nil)))) .nil) (.int 1)) (.lst .nil)))) .nil))))))⟩
def f__law_pieces : Fn := ⟨[false, false], .dat, 6, (.cons (.par [(2, true), (3, false)] (.cons (.lst .nil) (.cons .non .nil))) (.cons (.forr (.v 4) .rng1 (.cons (.bin .add (.blt .len (.cons (.var 0) .nil)) (.int 1)) .nil) (.cons (.asg 5 (.and (.cmp .lt (.var 4) (.blt .len (.cons (.var 0) .nil))) (.cmp .eq (.sub (.var 0) (.var 4)) (.int 1)))) (.cons (.ife (.and (.var 5) (.cmp .is (.var 3) .non)) (.cons (.asg 3 (.var 4)) .nil) .nil) (.cons (.ife (.and (.not (.var 5)) (.cmp .isnot (.var 3) .non)) (.cons (.app 2 (.tup (.cons (.bin .add (.var 1) (.var 3)) (.cons (.bin .add (.var 1) (.var 4)) .nil)))) (.cons (.asg 3 .non) .nil)) .nil) .nil)))) (.cons (.fz 2) (.cons (.ret (.var 2)) .nil))))⟩
def f_law : Fn := ⟨[false], .dat, 22, (.cons (.asgO 1 (.lst (.cons (.blt .list (.cons (.var 0) .nil)) (.cons (.int 0) (.cons (.int 0) (.cons (.int 70) .nil)))))) (.cons (.asgO 2 (.lst .nil)) (.cons (.forr (.v 3) .rng1 (.cons (.call 4 (.cons (.bvar 1) (.cons (.int 7) .nil))) .nil) (.cons (.asg 4 (.bin .sub (.call 4 (.cons (.bvar 1) (.cons (.int 10) .nil))) (.int 2))) (.cons (.app 2 (.tup (.cons (.var 4) (.cons (.bin .add (.bin .add (.var 4) (.int 1)) (.call 4 (.cons (.bvar 1) (.cons (.int 5) .nil)))) .nil)))) .nil))) (.cons (.asg 5 (.blt .len (.cons (.bvar 2) .nil))) (.cons (.asg 4 (.bin .sub (.call 4 (.cons (.bvar 1) (.cons (.int 6) .nil))) (.int 1))) (.cons (.asg 6 (.bin .add (.var 4) (.call 4 (.cons (.bvar 1) (.cons (.int 9) .nil))))) (.cons (.fz 2) (.cons (.asgO 7 (.lc [9] (.v 9) .rng2 (.cons (.neg (.int 3)) (.cons (.int 16) .nil)) .nil (.blt .int (.cons (.cmp .ne (.lc [8] (.v 8) .seq (.cons (.var 2) .nil) (.cons (.chain .le .lt (.sub (.var 8) (.int 0)) (.var 9) (.sub (.var 8) (.int 1))) .nil) (.var 8)) (.lst .nil)) .nil)))) (.cons (.fz 7) (.cons (.asgO 10 (.lc [9] (.v 9) .rng2 (.cons (.var 4) (.cons (.var 6) .nil)) .nil (.blt .int (.cons (.cmp .ne (.lc [8] (.v 8) .seq (.cons (.var 2) .nil) (.cons (.chain .le .lt (.sub (.var 8) (.int 0)) (.var 9) (.sub (.var 8) (.int 1))) .nil) (.var 8)) (.lst .nil)) .nil)))) (.cons (.fz 10) (.cons (.ife (.not (.call 5 (.cons (.lst (.cons (.call 2 (.cons (.var 2) .nil)) (.cons (.call 3 (.cons (.var 2) (.cons (.var 4) (.cons (.var 6) .nil)))) .nil))) (.cons (.lst (.cons (.call 6 (.cons (.var 7) (.cons (.neg (.int 3)) .nil))) (.cons (.call 6 (.cons (.lc [11] (.v 11) .seq (.cons (.var 10) .nil) .nil (.bin .sub (.int 1) (.var 11))) (.cons (.var 4) .nil))) .nil))) .nil)))) (.cons (.ret (.bl false)) .nil) .nil) (.cons (.asgO 12 (.lc [13] (.v 13) .rng1 (.cons (.var 5) .nil) (.cons (.cmp .eq (.call 4 (.cons (.bvar 1) (.cons (.int 2) .nil))) (.int 0)) .nil) (.var 13))) (.cons (.fz 12) (.cons (.asgO 14 (.lc [9] (.v 9) .rng2 (.cons (.var 4) (.cons (.var 6) .nil)) (.cons (.cmp .eq (.lc [13] (.v 13) .seq (.cons (.var 12) .nil) (.cons (.chain .le .lt (.sub (.sub (.var 2) (.var 13)) (.int 0)) (.var 9) (.sub (.sub (.var 2) (.var 13)) (.int 1))) .nil) (.var 13)) (.lst .nil)) .nil) (.var 9))) (.cons (.fz 14) (.cons (.ife (.not (.call 5 (.cons (.call 1 (.cons (.var 2) (.cons (.var 12) (.cons (.var 4) (.cons (.var 6) .nil))))) (.cons (.ite (.cmp .ne (.var 14) (.lst .nil)) (.sub (.var 14) (.int 0)) .non) .nil)))) (.cons (.ret (.bl false)) .nil) .nil) (.cons (.asg 15 (.call 0 (.cons (.var 2) (.cons (.var 4) (.cons (.var 6) .nil))))) (.cons (.asg 16 .non) (.cons (.forr (.v 17) .rng1 (.cons (.bin .shl (.int 1) (.var 5)) .nil) (.cons (.asgO 18 (.lc [13] (.v 13) .rng1 (.cons (.var 5) .nil) (.cons (.cmp .eq (.bin .band (.bin .shr (.var 17) (.var 13)) (.int 1)) (.int 1)) .nil) (.var 13))) (.cons (.fz 18) (.cons (.ife (.cmp .eq (.lc [9] (.v 9) .rng2 (.cons (.var 4) (.cons (.var 6) .nil)) (.cons (.cmp .eq (.lc [13] (.v 13) .seq (.cons (.var 18) .nil) (.cons (.chain .le .lt (.sub (.sub (.var 2) (.var 13)) (.int 0)) (.var 9) (.sub (.sub (.var 2) (.var 13)) (.int 1))) .nil) (.var 13)) (.lst .nil)) .nil) (.var 9)) (.lst .nil)) (.cons (.asg 16 (.ite (.cmp .is (.var 16) .non) (.blt .len (.cons (.var 18) .nil)) (.blt .min2 (.cons (.var 16) (.cons (.blt .len (.cons (.var 18) .nil)) .nil))))) .nil) .nil) .nil)))) (.cons (.ife (.or (.cmp .ne (.cmp .is (.var 15) .non) (.cmp .is (.var 16) .non)) (.and (.cmp .isnot (.var 15) .non) (.or (.cmp .ne (.blt .len (.cons (.var 15) .nil)) (.var 16)) (.cmp .isnot (.call 1 (.cons (.var 2) (.cons (.var 15) (.cons (.var 4) (.cons (.var 6) .nil))))) .non)))) (.cons (.ret (.bl false)) .nil) .nil) (.cons (.par [(19, false), (20, true)] (.cons (.var 4) (.cons (.lst .nil) .nil))) (.cons (.whl (.and (.cmp .isnot (.var 15) .non) (.cmp .lt (.var 19) (.var 6))) (.cons (.asgO 21 (.lc [13] (.v 13) .rng1 (.cons (.var 5) .nil) (.cons (.chain .le .lt (.sub (.sub (.var 2) (.var 13)) (.int 0)) (.var 19) (.sub (.sub (.var 2) (.var 13)) (.int 1))) .nil) (.tup (.cons (.bin .sub (.int 0) (.sub (.sub (.var 2) (.var 13)) (.int 1))) (.cons (.var 13) .nil))))) (.cons (.fz 21) (.cons (.app 20 (.sub (.blt .min1 (.cons (.var 21) .nil)) (.int 1))) (.cons (.asg 19 (.sub (.sub (.var 2) (.sub (.bvar 20) (.neg (.int 1)))) (.int 1))) .nil))))) (.cons (.ret (.or (.cmp .is (.var 15) .non) (.cmp .eq (.var 15) (.bvar 20)))) .nil))))))))))))))))))))))))⟩
abbrev s_fewest_to_cover : Stmt := topS 1
def d_fewest_to_cover : Df := ⟨"fewest_to_cover", "fewest_to_cover", none, s_fewest_to_cover, ["spans", "low", "high", "found", "now", "here", "k"], ["spans", "low", "high"], f_fewest_to_cover⟩
abbrev s_missed_time : Stmt := topS 2
def d_missed_time : Df := ⟨"missed_time", "missed_time", none, s_missed_time, ["spans", "some", "low", "high", "time", "k"], ["spans", "some", "low", "high"], f_missed_time⟩
abbrev s_merged_spans : Stmt := topS 3
def d_merged_spans : Df := ⟨"merged_spans", "merged_spans", none, s_merged_spans, ["spans", "found", "low", "high"], ["spans"], f_merged_spans⟩
abbrev s_gaps_between : Stmt := topS 4
def d_gaps_between : Df := ⟨"gaps_between", "gaps_between", none, s_gaps_between, ["spans", "low", "high", "found", "now", "start", "end"], ["spans", "low", "high"], f_gaps_between⟩
abbrev s__law_next : Stmt := topS 6
def d__law_next : Df := ⟨"_law_next", "_law_next", none, s__law_next, ["tape", "many", "rest", "cell"], ["tape", "many"], f__law_next⟩
abbrev s__law_same : Stmt := topS 7
def d__law_same : Df := ⟨"_law_same", "_law_same", none, s__law_same, ["told", "due", "k"], ["told", "due"], f__law_same⟩
abbrev s__law_pieces : Stmt := topS 8
def d__law_pieces : Df := ⟨"_law_pieces", "_law_pieces", none, s__law_pieces, ["bits", "low", "found", "start", "k", "here"], ["bits", "low"], f__law_pieces⟩
abbrev s_law : Stmt := topS 9
def d_law : Df := ⟨"law", "law", none, s_law, ["script", "tape", "spans", "turn", "low", "many", "high", "bits", "one", "time", "inner", "bit", "some", "k", "free", "told", "least", "mask", "chosen", "now", "due", "here"], ["script"], f_law⟩
def defs : List Df := [d_fewest_to_cover, d_missed_time, d_merged_spans, d_gaps_between, d__law_next, d__law_same, d__law_pieces, d_law]
def nbs : List Str := ["abs", "any", "bool", "int", "isinstance", "len", "list", "max", "min", "range", "sorted", "str", "tuple"]
def gcs : List Str := []
def css : Cs := []
def fns : List Fn := [f_fewest_to_cover, f_missed_time, f_merged_spans, f_gaps_between, f__law_next, f__law_same, f__law_pieces, f_law]
theorem fns_eq : defs.map (·.fn) = fns := rfl
def gls : List D := []
theorem b_fewest_to_cover : BindOk "fewest_to_cover" "fewest_to_cover" s_fewest_to_cover ["spans", "low", "high"] := fun _ _ _ _ _ _ us hl => match us, hl with | [_, _, _], _ => rfl
theorem b_missed_time : BindOk "missed_time" "missed_time" s_missed_time ["spans", "some", "low", "high"] := fun _ _ _ _ _ _ us hl => match us, hl with | [_, _, _, _], _ => rfl
theorem b_merged_spans : BindOk "merged_spans" "merged_spans" s_merged_spans ["spans"] := fun _ _ _ _ _ _ us hl => match us, hl with | [_], _ => rfl
theorem b_gaps_between : BindOk "gaps_between" "gaps_between" s_gaps_between ["spans", "low", "high"] := fun _ _ _ _ _ _ us hl => match us, hl with | [_, _, _], _ => rfl
theorem b__law_next : BindOk "_law_next" "_law_next" s__law_next ["tape", "many"] := fun _ _ _ _ _ _ us hl => match us, hl with | [_, _], _ => rfl
theorem b__law_same : BindOk "_law_same" "_law_same" s__law_same ["told", "due"] := fun _ _ _ _ _ _ us hl => match us, hl with | [_, _], _ => rfl
theorem b__law_pieces : BindOk "_law_pieces" "_law_pieces" s__law_pieces ["bits", "low"] := fun _ _ _ _ _ _ us hl => match us, hl with | [_, _], _ => rfl
theorem b_law : BindOk "law" "law" s_law ["script"] := fun _ _ _ _ _ _ us hl => match us, hl with | [_], _ => rfl
def xs : List Str := []
def as : As := []
def lm : List Str := ["fewest_to_cover"]
def em : List (Str × List Nat) := []
def wx (T0 : Addr) : Wx := ⟨fun c => match c with  | _ => none, fun c => match c with  | _ => none, [(T0, "fewest_to_cover.<locals>.<lambda>")]⟩

set_option maxHeartbeats 0 in
theorem ck_ok : ckAll nbs gcs (sig defs) css xs em as lm defs = true := by decide +kernel
end K70

/-! stretches: the fewest to cover, missed time -/
namespace K70
open PySem Vi SC
def spD (n : Nat) (a b : Nat → Int) : D := .lst ((List.range n).map fun k => .tup [.int (a k), .int (b k)])
def nL (l : List Nat) : D := .lst (l.map fun k => .int ((k : Nat) : Int))
def oL : Option (List Nat) → D
  | none => .non
  | some l => nL l
local macro_rules | `(tactic| simp! [$ls,*]) => `(tactic| simp +contextual (disch := first | assumption | omega | (simp only [List.length_map, List.length_range, List.length_cons, List.length_nil, List.length_append, List.length_replicate]; first | assumption | omega)) only [bOk, varD_fz, bvarD_ow, bvarD_od, gS0, gSs, p_var, p_bvar, p_int, p_str, p_non, p_bl, p_nop, p_dnew, p_gc, p_tup, p_lst, p_bin, p_neg, p_not, p_cmp, p_chain, p_and, p_or, p_ite, p_call, p_blt, p_isi, p_sub, p_dsub, p_fld, p_isc, p_make, p_meth, p_om2, p_prim, p_lcm, fld_0, fld_1, fld_2, fld_3, isc_ok, obj_ok, p_mdef, p_kmax, p_asked, p_lk, odD_od, mask0, mask_c, ms_fz, ms_ow, ms_od, ms_no, p_trev, t_rev, p_sset, p_slice, p_lc, p_lc2, p_nil, p_cons, bind_v, bind_t2, bind_t3, bind_t4, wipe0, wipeC, setZ, setC, asInt_i, asBl_b, ofO_s, allT_0, allT_1, if_t, if_f, if_and, if_or, bind_if, c_lt, c_gt, c_le, c_ge, c_eq, c_ne, c_is, c_isnot, c_isB, c_isnotB, c_inT, c_inL, c_ninT, c_ninL, n_int, n_bl, n_str, n_tup, n_lst, n_non, b_add, b_sub, b_mul, b_mod, b_fdiv, b_lst, b_tup, b_rep, b_repT, f_lenL, f_lenT, f_abs, f_int, f_intB, f_bool, f_listL, f_listT, f_listD, f_tupL, f_tupT, f_all, f_any, f_sum, f_sumT, f_max2, f_min2, i_int, i_intB, i_intN, i_intS, i_intT, i_intL, i_boolI, i_bool, i_boolN, i_boolS, i_boolT, i_boolL, i_strI, i_strB, i_strN, i_str, i_strT, i_strL, i_tupI, i_tupB, i_tupN, i_tupS, i_tup, i_tupL, i_lstI, i_lstB, i_lstN, i_lstS, i_lstT, i_lst, st_rng, sl_rng, s_lst, s_tup, s_keys, s_rng, lcM_of, lcM_rng, lcR_some, lcR_filter, lcM_some, lcM_filter, lcCM_of, lcCM_rng, lcCM_ok, lcCR_ok, lcP_nil, lcP_cons, m_some, m_none, e_int, e_bl, e_ones, e_pow, sb_small, e_nil0, sset_rng, sl_ints, sl_last, kO, e_intsNil, e_intsNilT, b_rep4, om2_mat, st_rngI, sl_rngI, tn_nat, tn_0, tn_1, tn_2, tn_s, tn_p, slT_from, slL_from, slT_to, slL_to, oN, oS, np_n, np_i, np_v, np_b, np_f, np_s, np_c, np_g, ask_ok, akD_p, akD_u, ofC_n, ofC_s, ms_om, List.length_map, List.length_range, List.map_cons, List.map_nil, List.length_cons, List.length_nil, List.length_append, Nat.zero_add, List.nil_append, List.cons_append, Bool.not_true, Bool.not_false, Bool.and_true, Bool.true_and, Bool.and_false, Bool.false_and, Bool.or_true, Bool.true_or, Bool.or_false, Bool.false_or, Bool.not_not, sub_t0, sub_t1, sub_t2, sub_t3, sub_l0, sub_l1, sub_l2, sub_l3, decide_true, decide_false, if_true, if_false, ite_self, $ls,*])
section
variable {n : Nat} {a b : Nat → Int}
theorem sp_at {j : Nat} (h : j < n) : subD (spD n a b) (.int ((j : Nat) : Int)) = .ok (.tup [.int (a j), .int (b j)]) := sl_rng h
theorem sp_len : bfn .len [spD n a b] = .ok (.int ((n : Nat) : Int)) := by
  show Res.ok (D.int ((((List.range n).map _).length : Nat) : Int)) = _
  rw [List.length_map, List.length_range]
def has (a b : Nat → Int) (t : Int) (k : Nat) : Bool := decide (a k ≤ t) && decide (t < b k)
theorem has_iff {t : Int} {k : Nat} : has a b t k = true ↔ cov a b k t := by
  unfold has cov
  rw [Bool.and_eq_true, decide_eq_true_eq, decide_eq_true_eq]
theorem few_ok (k : Nat) (hn : n ≤ 1000) {lo hi : Int} (hd : hi - lo ≤ 1000) : ∃ out : Option (List Nat), ((∀ l, out = some l → Greedy a b n hi lo l) ∧ (out = none → ∃ t, lo ≤ t ∧ t < hi ∧ ∀ k, k < n → ¬ cov a b k t)) ∧ tab gls fns (k + 1) 0 [.fz (spD n a b), .fz (.int lo), .fz (.int hi)] = .ok (oL out, []) := by
  suffices h : ∃ d, (∃ out : Option (List Nat), ((∀ l, out = some l → Greedy a b n hi lo l) ∧ (out = none → ∃ t, lo ≤ t ∧ t < hi ∧ ∀ k, k < n → ¬ cov a b k t)) ∧ d = oL out) ∧ tab gls fns (k + 1) 0 [.fz (spD n a b), .fz (.int lo), .fz (.int hi)] = .ok (d, []) by
    obtain ⟨d, ⟨out, h1, rfl⟩, h2⟩ := h
    exact ⟨out, h1, h2⟩
  refine fn_ex (fn := f_fewest_to_cover) rfl rfl rfl rfl ?_
  show wp (exB _ _ f_fewest_to_cover.body [.fz (spD n a b), .fz (.int lo), .fz (.int hi), .no, .no, .no, .no]) _
  unfold f_fewest_to_cover
  dsimp only
  have hl : n ≤ line := by unfold line; omega
  apply xAsgO; apply wpE rfl
  · simp! []
    rfl
  refine ⟨_, rfl, ?_⟩
  (try simp only [setZ, setC])
  apply xAsg; apply wpE rfl
  · simp! []
    rfl
  (try simp only [setZ, setC])
  apply xWhl (m := (hi - lo).toNat) (fun m en => ∃ (l : List Nat) (now : Int) (x5 x6 : Slot), lo ≤ now ∧ m = (hi - now).toNat ∧ l.length + (hi - now).toNat ≤ (hi - lo).toNat ∧ (∀ r, Greedy a b n hi now r → Greedy a b n hi lo (l ++ r)) ∧ en = [.fz (spD n a b), .fz (.int lo), .fz (.int hi), .ow (l.map fun k => .int ((k : Nat) : Int)), .fz (.int now), x5, x6]) (by unfold fuel; omega) rfl
  · exact ⟨[], lo, .no, .no, Int.le_refl _, rfl, by simp, fun r h => h, rfl⟩
  · rintro m _ ⟨l, now, x5, x6, hlo, rfl, hll, hg, rfl⟩
    refine ⟨decide (now < hi), ?_, fun ht => ?_, fun hf => ?_⟩
    · simp! []
    · have ht := of_decide_eq_true ht
      have h1 : ∀ j, j < n → subD (spD n a b) (.int ((j : Nat) : Int)) = .ok (.tup [.int (a j), .int (b j)]) := fun j hj => sp_at hj
      apply xAsgO; apply wpE (d := nL ((List.range n).filter (has a b now))) rfl
      · simp! [sp_len, h1]
        rfl
      refine ⟨_, rfl, ?_⟩
      (try simp only [setZ, setC])
      apply xFz rfl
      (try simp only [setZ, setC])
      have he : eqD (.lst (((List.range n).filter (has a b now)).map fun k => .int ((k : Nat) : Int))) (.lst []) = .ok ((List.range n).filter (has a b now)).isEmpty := e_intsNil (f := fun k : Nat => ((k : Nat) : Int))
      cases hem : ((List.range n).filter (has a b now)).isEmpty with
      | true =>
        rw [hem] at he
        apply xThen rfl
        · simp! [he]
        apply xRet; apply wpE rfl
        · simp! []
          rfl
        refine ⟨_, rfl, ⟨none, ⟨(fun _ h => nomatch h), fun _ => ⟨now, hlo, ht, fun k hk hc => ?_⟩⟩, rfl⟩, by simp⟩
        rw [List.isEmpty_iff, List.filter_eq_nil_iff] at hem
        exact hem k (List.mem_range.mpr hk) (has_iff.mpr hc)
      | false =>
        rw [hem] at he
        apply xSkip rfl
        · simp! [he]
        have hne : (List.range n).filter (has a b now) ≠ [] := fun z => by rw [z] at hem; cases hem
        obtain ⟨x, hx, hx2, hx3⟩ := kmaxD_two (e := fun k : Nat => D.int ((k : Nat) : Int)) (f := fun d cs => pv (tab gls fns k) gls (.tup (.cons (.sub (.sub (.var 1) (.var 0)) (.int 1)) (.cons (.bin .sub (.int 0) (.var 0)) .nil))) (.fz d :: cs.map .fz)) (g := fun k => (b k, 0 - ((k : Nat) : Int))) (cs := [spD n a b]) (l := (List.range n).filter (has a b now)) (fun j hj => by
          have hjn := List.mem_range.mp (List.mem_filter.mp hj).1
          have q := sp_at (a := a) (b := b) hjn
          simp! [q]) hne
        obtain ⟨hxn, hxc⟩ := List.mem_filter.mp hx
        have hxn := List.mem_range.mp hxn
        have hxc := has_iff.mp hxc
        apply xAsg; apply wpE (d := .int ((x : Nat) : Int)) rfl
        · rw [p_kmax]
          simp! []
          exact hx2
        (try simp only [setZ, setC])
        apply xApp rfl
        apply wpE rfl
        · simp! []
          rfl
        refine ⟨_, rfl, by rw [List.length_map]; unfold line; omega, ?_⟩
        (try simp only [setZ, setC])
        have q := sp_at (a := a) (b := b) hxn
        apply xAsg; apply wpE rfl
        · simp! [q]
          rfl
        (try simp only [setZ, setC])
        apply xNil
        have hbx := hxc.2
        refine ⟨(hi - b x).toNat, by omega, l ++ [x], b x, .fz (nL ((List.range n).filter (has a b now))), .fz (.int ((x : Nat) : Int)), by omega, rfl, by simp; omega, fun r hr => ?_, by rw [List.map_append]; rfl⟩
        rw [List.append_assoc]
        refine hg _ (.step ht hxn hxc (fun j hj hcj => ?_) hr)
        have := hx3 j (List.mem_filter.mpr ⟨List.mem_range.mpr hj, has_iff.mpr hcj⟩)
        have n2 : ¬ (lt2 (b x, 0 - ((x : Nat) : Int)) (b j, 0 - ((j : Nat) : Int)) = true) := by rw [this]; simp
        rw [lt2_iff] at n2
        dsimp only at n2
        omega
    · have hf := of_decide_eq_false hf
      apply xFz rfl
      (try simp only [setZ, setC])
      apply xRet; apply wpE rfl
      · simp! []
        rfl
      refine ⟨_, rfl, ⟨some l, ⟨fun l' h => ?_, fun h => nomatch h⟩, rfl⟩, by simp⟩
      cases h
      have := hg [] (.done (by omega))
      rw [List.append_nil] at this
      exact this
/-- the first time that none of these has -/
def miss (a b : Nat → Int) (S : List Nat) (lo : Int) (m : Nat) : Option Int := ((List.range m).map fun t : Nat => lo + ((t : Nat) : Int)).find? fun t => !(S.any (has a b t))
end
end K70

/-! stretches: missed time -/
namespace K70
open PySem Vi SC
local macro_rules | `(tactic| simp! [$ls,*]) => `(tactic| simp +contextual (disch := first | assumption | omega | (simp only [List.length_map, List.length_range, List.length_cons, List.length_nil, List.length_append, List.length_replicate]; first | assumption | omega)) only [bOk, varD_fz, bvarD_ow, bvarD_od, gS0, gSs, p_var, p_bvar, p_int, p_str, p_non, p_bl, p_nop, p_dnew, p_gc, p_tup, p_lst, p_bin, p_neg, p_not, p_cmp, p_chain, p_and, p_or, p_ite, p_call, p_blt, p_isi, p_sub, p_dsub, p_fld, p_isc, p_make, p_meth, p_om2, p_prim, p_lcm, fld_0, fld_1, fld_2, fld_3, isc_ok, obj_ok, p_mdef, p_kmax, p_asked, p_lk, odD_od, mask0, mask_c, ms_fz, ms_ow, ms_od, ms_no, p_trev, t_rev, p_sset, p_slice, p_lc, p_lc2, p_nil, p_cons, bind_v, bind_t2, bind_t3, bind_t4, wipe0, wipeC, setZ, setC, asInt_i, asBl_b, ofO_s, allT_0, allT_1, if_t, if_f, if_and, if_or, bind_if, c_lt, c_gt, c_le, c_ge, c_eq, c_ne, c_is, c_isnot, c_isB, c_isnotB, c_inT, c_inL, c_ninT, c_ninL, n_int, n_bl, n_str, n_tup, n_lst, n_non, b_add, b_sub, b_mul, b_mod, b_fdiv, b_lst, b_tup, b_rep, b_repT, f_lenL, f_lenT, f_abs, f_int, f_intB, f_bool, f_listL, f_listT, f_listD, f_tupL, f_tupT, f_all, f_any, f_sum, f_sumT, f_max2, f_min2, i_int, i_intB, i_intN, i_intS, i_intT, i_intL, i_boolI, i_bool, i_boolN, i_boolS, i_boolT, i_boolL, i_strI, i_strB, i_strN, i_str, i_strT, i_strL, i_tupI, i_tupB, i_tupN, i_tupS, i_tup, i_tupL, i_lstI, i_lstB, i_lstN, i_lstS, i_lstT, i_lst, st_rng, sl_rng, s_lst, s_tup, s_keys, s_rng, lcM_of, lcM_rng, lcR_some, lcR_filter, lcM_some, lcM_filter, lcCM_of, lcCM_rng, lcCM_ok, lcCR_ok, lcP_nil, lcP_cons, m_some, m_none, e_int, e_bl, e_ones, e_pow, sb_small, e_nil0, sset_rng, sl_ints, sl_last, kO, e_intsNil, e_intsNilT, b_rep4, om2_mat, st_rngI, sl_rngI, tn_nat, tn_0, tn_1, tn_2, tn_s, tn_p, slT_from, slL_from, slT_to, slL_to, oN, oS, np_n, np_i, np_v, np_b, np_f, np_s, np_c, np_g, ask_ok, akD_p, akD_u, ofC_n, ofC_s, ms_om, List.length_map, List.length_range, List.map_cons, List.map_nil, List.length_cons, List.length_nil, List.length_append, Nat.zero_add, List.nil_append, List.cons_append, Bool.not_true, Bool.not_false, Bool.and_true, Bool.true_and, Bool.and_false, Bool.false_and, Bool.or_true, Bool.true_or, Bool.or_false, Bool.false_or, Bool.not_not, sub_t0, sub_t1, sub_t2, sub_t3, sub_l0, sub_l1, sub_l2, sub_l3, decide_true, decide_false, if_true, if_false, ite_self, $ls,*])
section
variable {n : Nat} {a b : Nat → Int}
theorem rng2_t {lo hi : Int} (h1 : -1000 ≤ lo) (h2 : lo ≤ 1000) (h3 : -1000 ≤ hi) (h4 : hi ≤ 1000) : srcI .rng2 [.int lo, .int hi] = .ok ((List.range (hi - lo).toNat).map fun t : Nat => .int (lo + ((t : Nat) : Int))) := by
  have e : big62 lo = true ∧ big62 hi = true ∧ (hi - lo).toNat ≤ line := by
    refine ⟨?_, ?_, by unfold line; omega⟩ <;> unfold big62 <;> rw [Bool.and_eq_true, decide_eq_true_eq, decide_eq_true_eq] <;> omega
  simp only [srcI]
  rw [if_pos e]
  rfl
/-- what is told of a missed time -/
def Missed (a b : Nat → Int) (S : List Nat) (lo hi : Int) (out : Option Int) : Prop :=
  (∀ t, out = some t → lo ≤ t ∧ t < hi ∧ (∀ k ∈ S, ¬ cov a b k t) ∧ ∀ u, lo ≤ u → u < t → ∃ k ∈ S, cov a b k u) ∧ (out = none → Covers a b S lo hi)
def oI : Option Int → D
  | none => .non
  | some t => .int t
theorem missed_ok (k : Nat) {S : List Nat} (hS : ∀ j ∈ S, j < n) {lo hi : Int} (h1 : -1000 ≤ lo) (h2 : lo ≤ 1000) (h3 : -1000 ≤ hi) (h4 : hi ≤ 1000) : ∃ out : Option Int, Missed a b S lo hi out ∧ tab gls fns (k + 1) 1 [.fz (spD n a b), .fz (nL S), .fz (.int lo), .fz (.int hi)] = .ok (oI out, []) := by
  suffices h : ∃ d, (∃ out : Option Int, Missed a b S lo hi out ∧ d = oI out) ∧ tab gls fns (k + 1) 1 [.fz (spD n a b), .fz (nL S), .fz (.int lo), .fz (.int hi)] = .ok (d, []) by
    obtain ⟨d, ⟨out, h1, rfl⟩, h2⟩ := h
    exact ⟨out, h1, h2⟩
  refine fn_ex (fn := f_missed_time) rfl rfl rfl rfl ?_
  show wp (exB _ _ f_missed_time.body [.fz (spD n a b), .fz (nL S), .fz (.int lo), .fz (.int hi), .no, .no]) _
  unfold f_missed_time
  dsimp only
  apply xFor (fun q : Nat => D.int (lo + ((q : Nat) : Int))) (List.range (hi - lo).toNat) (fun d1 en => (∀ u, lo ≤ u → u < lo + ((d1.length : Nat) : Int) → ∃ j ∈ S, cov a b j u) ∧ ∃ x4, en = [.fz (spD n a b), .fz (nL S), .fz (.int lo), .fz (.int hi), x4, .no]) rfl
  · simp! []
    rfl
  · exact rng2_t h1 h2 h3 h4
  · exact ⟨fun u h1 h2 => by simp at h2; omega, _, rfl⟩
  · rintro d1 j d2 _ e ⟨hf, x4, rfl⟩
    obtain ⟨hj, rfl⟩ := rng_split e
    rw [List.length_range] at hf
    refine wp_ok ?_
    (try simp only [setZ, setC])
    have e1 : ∀ i ∈ S, subD (spD n a b) (.int ((i : Nat) : Int)) = .ok (.tup [.int (a i), .int (b i)]) := fun i hi => sp_at (hS i hi)
    cases hc : S.any (has a b (lo + ((j : Nat) : Int))) with
    | false =>
      apply xThen rfl
      · simp! [nL, e1]
        exact congrArg (fun z => Res.ok (D.bl (!z))) hc
      apply xRet; apply wpE rfl
      · simp! []
        rfl
      refine ⟨_, rfl, ⟨some (lo + ((j : Nat) : Int)), ⟨fun t ht => ?_, fun h => nomatch h⟩, rfl⟩, by simp⟩
      cases ht
      refine ⟨by omega, by omega, fun i hi hci => ?_, hf⟩
      rw [List.any_eq_false] at hc
      exact hc i hi (has_iff.mpr hci)
    | true =>
      apply xSkip rfl
      · simp! [nL, e1]
        exact congrArg (fun z => Res.ok (D.bl (!z))) hc
      apply xNil
      refine ⟨fun u h1 h2 => ?_, _, rfl⟩
      by_cases hu : u < lo + ((j : Nat) : Int)
      · exact hf u h1 hu
      · obtain ⟨i, hi, hci⟩ := List.any_eq_true.mp hc
        have : u = lo + ((j : Nat) : Int) := by simp at h2; omega
        exact ⟨i, hi, this ▸ has_iff.mp hci⟩
  · rintro _ ⟨hf, x4, rfl⟩
    apply xRet; apply wpE rfl
    · simp! []
      rfl
    refine ⟨_, rfl, ⟨none, ⟨(fun _ h => nomatch h), fun _ t h1 h2 => hf t h1 (by rw [List.length_range]; omega)⟩, rfl⟩, by simp⟩
end
end K70

/-! stretches: merged -/
namespace K70
open PySem Vi SC
abbrev pD (p : P) : D := .tup [.int p.1, .int p.2]
def psD (l : List P) : D := .lst (l.map pD)
def sortP (l : List P) : List P := sortK (fun a b => !lt2 b a) l
theorem sortP_len {l : List P} : (sortP l).length = l.length := letI : Wx := wx 0; (sortK_perm l).length_eq
theorem sortP_mem {l : List P} {p : P} : p ∈ sortP l ↔ p ∈ l := letI : Wx := wx 0; (sortK_perm l).mem_iff
theorem sortP_up {l : List P} : (sortP l).Pairwise fun p q => p.1 ≤ q.1 := by
  letI : Wx := wx 0
  refine (sortK_sorted total2 l).imp fun {p q} h => ?_
  rw [le2_iff] at h
  omega
theorem inL_sortP {l : List P} {t : Int} : inL (sortP l) t ↔ inL l t := by
  unfold inL
  constructor
  · rintro ⟨p, hp, h⟩; exact ⟨p, sortP_mem.mp hp, h⟩
  · rintro ⟨p, hp, h⟩; exact ⟨p, sortP_mem.mpr hp, h⟩
/-- the last stretch grows, or a new one comes -/
theorem grow {l : List P} {p q : P} (h : Sep (l ++ [p])) (hq : q.1 < q.2) (hs : p.1 ≤ q.1) (hl : q.1 ≤ p.2) : Sep (l ++ [(p.1, max p.2 q.2)]) ∧ ∀ t, inL (l ++ [(p.1, max p.2 q.2)]) t ↔ inL (l ++ [p]) t ∨ inP q t := by
  obtain ⟨h1, h2, h3⟩ := h.init
  refine ⟨h1.snoc (by dsimp only; omega) h3, fun t => ?_⟩
  rw [inL_snoc, inL_snoc]
  have : inP (p.1, max p.2 q.2) t ↔ inP p t ∨ inP q t := by
    unfold inP
    dsimp only
    omega
  rw [this]
  exact or_assoc.symm
local macro_rules | `(tactic| simp! [$ls,*]) => `(tactic| simp +contextual (disch := first | assumption | omega | (simp only [List.length_map, List.length_range, List.length_cons, List.length_nil, List.length_append, List.length_replicate]; first | assumption | omega)) only [bOk, varD_fz, bvarD_ow, bvarD_od, gS0, gSs, p_var, p_bvar, p_int, p_str, p_non, p_bl, p_nop, p_dnew, p_gc, p_tup, p_lst, p_bin, p_neg, p_not, p_cmp, p_chain, p_and, p_or, p_ite, p_call, p_blt, p_isi, p_sub, p_dsub, p_fld, p_isc, p_make, p_meth, p_om2, p_prim, p_lcm, fld_0, fld_1, fld_2, fld_3, isc_ok, obj_ok, p_mdef, p_kmax, p_asked, p_lk, odD_od, mask0, mask_c, ms_fz, ms_ow, ms_od, ms_no, p_trev, t_rev, p_sset, p_slice, p_lc, p_lc2, p_nil, p_cons, bind_v, bind_t2, bind_t3, bind_t4, wipe0, wipeC, setZ, setC, asInt_i, asBl_b, ofO_s, allT_0, allT_1, if_t, if_f, if_and, if_or, bind_if, c_lt, c_gt, c_le, c_ge, c_eq, c_ne, c_is, c_isnot, c_isB, c_isnotB, c_inT, c_inL, c_ninT, c_ninL, n_int, n_bl, n_str, n_tup, n_lst, n_non, b_add, b_sub, b_mul, b_mod, b_fdiv, b_lst, b_tup, b_rep, b_repT, f_lenL, f_lenT, f_abs, f_int, f_intB, f_bool, f_listL, f_listT, f_listD, f_tupL, f_tupT, f_all, f_any, f_sum, f_sumT, f_max2, f_min2, i_int, i_intB, i_intN, i_intS, i_intT, i_intL, i_boolI, i_bool, i_boolN, i_boolS, i_boolT, i_boolL, i_strI, i_strB, i_strN, i_str, i_strT, i_strL, i_tupI, i_tupB, i_tupN, i_tupS, i_tup, i_tupL, i_lstI, i_lstB, i_lstN, i_lstS, i_lstT, i_lst, st_rng, sl_rng, s_lst, s_tup, s_keys, s_rng, lcM_of, lcM_rng, lcR_some, lcR_filter, lcM_some, lcM_filter, lcCM_of, lcCM_rng, lcCM_ok, lcCR_ok, lcP_nil, lcP_cons, m_some, m_none, e_int, e_bl, e_ones, e_pow, sb_small, e_nil0, sset_rng, sl_ints, sl_last, kO, e_intsNil, e_intsNilT, b_rep4, om2_mat, st_rngI, sl_rngI, tn_nat, tn_0, tn_1, tn_2, tn_s, tn_p, slT_from, slL_from, slT_to, slL_to, oN, oS, np_n, np_i, np_v, np_b, np_f, np_s, np_c, np_g, ask_ok, akD_p, akD_u, ofC_n, ofC_s, ms_om, List.length_map, List.length_range, List.map_cons, List.map_nil, List.length_cons, List.length_nil, List.length_append, Nat.zero_add, List.nil_append, List.cons_append, Bool.not_true, Bool.not_false, Bool.and_true, Bool.true_and, Bool.and_false, Bool.false_and, Bool.or_true, Bool.true_or, Bool.or_false, Bool.false_or, Bool.not_not, sub_t0, sub_t1, sub_t2, sub_t3, sub_l0, sub_l1, sub_l2, sub_l3, decide_true, decide_false, if_true, if_false, ite_self, $ls,*])
/-- stretches, each begun no later than the next, merged -/
theorem merged_ok (k : Nat) {l : List P} (hne : ∀ p ∈ l, p.1 < p.2) (hl : l.length ≤ 1000) : ∃ M : List P, Sep M ∧ (∀ t, inL M t ↔ inL l t) ∧ M.length ≤ l.length ∧ tab gls fns (k + 1) 2 [.fz (psD l)] = .ok (psD M, []) := by
  suffices h : ∃ d, (∃ M : List P, Sep M ∧ (∀ t, inL M t ↔ inL l t) ∧ M.length ≤ l.length ∧ d = psD M) ∧ tab gls fns (k + 1) 2 [.fz (psD l)] = .ok (d, []) by
    obtain ⟨d, ⟨M, h1, h2, h3, rfl⟩, h4⟩ := h
    exact ⟨M, h1, h2, h3, h4⟩
  refine fn_ex (fn := f_merged_spans) rfl rfl rfl rfl ?_
  show wp (exB _ _ f_merged_spans.body [.fz (psD l), .no, .no, .no]) _
  unfold f_merged_spans
  dsimp only
  have hs := SortOk.two.callL l
  apply xAsgO; apply wpE rfl
  · simp! []
    rfl
  refine ⟨_, rfl, ?_⟩
  (try simp only [setZ, setC])
  apply xFor pD (sortP l) (fun d1 en => ∃ (M : List P) (x2 x3 : Slot), Sep M ∧ (∀ t, inL M t ↔ inL d1 t) ∧ M.length ≤ d1.length ∧ (∀ q ∈ M, ∃ p ∈ d1, q.1 = p.1) ∧ en = [.fz (psD l), .ow (M.map pD), x2, x3]) rfl
  · simp! [psD, hs]
    rfl
  · rfl
  · exact ⟨[], _, _, ⟨(fun _ h => nomatch h), List.Pairwise.nil⟩, fun t => Iff.rfl, Nat.le_refl _, (fun _ h => nomatch h), rfl⟩
  · rintro d1 p d2 _ e ⟨M, x2, x3, hM, hc, hlM, hst, rfl⟩
    obtain ⟨a, b⟩ := p
    have hlen : (sortP l).length = l.length := sortP_len
    have hld : d1.length < l.length := by
      have := congrArg List.length e
      rw [hlen, List.length_append, List.length_cons] at this
      omega
    have hab : a < b := hne (a, b) (sortP_mem.mp (by rw [e]; simp))
    have hup : ∀ p ∈ d1, p.1 ≤ a := fun p hp => by
      have h0 := sortP_up (l := l)
      rw [e] at h0
      exact (List.pairwise_append.mp h0).2.2 p hp (a, b) List.mem_cons_self
    refine ⟨_, bind_t2, ?_⟩
    (try simp only [setZ, setC])
    rcases List.eq_nil_or_concat M with rfl | ⟨M, ⟨p1, p2⟩, rfl⟩
    · have e5 : eqD (.lst (([] : List P).map pD)) (.lst []) = .ok true := rfl
      apply xElse rfl
      · simp! [e5]
      apply xApp rfl
      apply wpE rfl
      · simp! []
        rfl
      refine ⟨_, rfl, by decide, ?_⟩
      (try simp only [setZ, setC])
      apply xNil
      show wp _ _
      apply xNil
      refine ⟨[(a, b)], _, _, ⟨fun q hq => by rw [List.mem_singleton.mp hq]; exact hab, List.pairwise_singleton _ _⟩, fun t => ?_, by simp, fun q hq => ⟨(a, b), by simp, by rw [List.mem_singleton.mp hq]⟩, rfl⟩
      rw [inL_snoc, ← hc t]
      unfold inL
      simp
    · rw [List.concat_eq_append] at *
      have e2 : (M ++ [(p1, p2)]).map pD = M.map pD ++ [.tup [.int p1, .int p2]] := by rw [List.map_append]; rfl
      have e5 : eqD (.lst (M.map pD ++ [.tup [.int p1, .int p2]])) (.lst []) = .ok false := by
        rw [← e2]
        refine (((EqOk.int.pair EqOk.int).lst).eq (by decide) (M ++ [(p1, p2)]) []).trans ?_
        rw [decide_eq_false (by simp)]
      rw [e2]
      have hp1 : p1 ≤ a := by
        obtain ⟨p, hp, z⟩ := hst (p1, p2) (by simp)
        have := hup p hp
        dsimp only at z
        omega
      apply xBoth (t := decide (a ≤ p2)) rfl
      · simp! [e5]
      · intro c
        have c := of_decide_eq_true c
        apply xSet rfl rfl
        · simp! []
          rfl
        · simp! []
          rfl
        · rfl
        · exact putIx_last
        (try simp only [setZ, setC])
        apply xNil
        show wp _ _
        apply xNil
        obtain ⟨g1, g2⟩ := grow (p := (p1, p2)) (q := (a, b)) hM hab hp1 c
        refine ⟨M ++ [(p1, max p2 b)], _, _, g1, fun t => ?_, by simp at hlM ⊢; omega, fun q hq => ?_, by rw [List.map_append]; rfl⟩
        · rw [g2, inL_snoc (p := (a, b)) (l := d1), hc t]
        · rcases List.mem_append.mp hq with hq | hq
          · obtain ⟨p, hp, z⟩ := hst q (List.mem_append_left _ hq)
            exact ⟨p, List.mem_append_left _ hp, z⟩
          · obtain ⟨p, hp, z⟩ := hst (p1, p2) (by simp)
            rw [List.mem_singleton.mp hq]
            exact ⟨p, List.mem_append_left _ hp, z⟩
      · intro c
        have c := of_decide_eq_false c
        apply xApp rfl
        apply wpE rfl
        · simp! []
          rfl
        refine ⟨_, rfl, by simp at hlM ⊢; unfold line; omega, ?_⟩
        (try simp only [setZ, setC])
        apply xNil
        show wp _ _
        apply xNil
        obtain ⟨h1, h2, h3⟩ := hM.init
        refine ⟨M ++ [(p1, p2)] ++ [(a, b)], _, _, hM.snoc hab fun q hq => ?_, fun t => ?_, by simp at hlM ⊢; omega, fun q hq => ?_, by rw [List.map_append, e2]; rfl⟩
        · rcases List.mem_append.mp hq with hq | hq
          · have := h3 q hq
            dsimp only at this h2 ⊢
            omega
          · rw [List.mem_singleton.mp hq]
            dsimp only
            omega
        · rw [inL_snoc, inL_snoc (p := (a, b)) (l := d1), hc t]
        · rcases List.mem_append.mp hq with hq | hq
          · obtain ⟨p, hp, z⟩ := hst q hq
            exact ⟨p, List.mem_append_left _ hp, z⟩
          · exact ⟨(a, b), by simp, by rw [List.mem_singleton.mp hq]⟩
  · rintro _ ⟨M, x2, x3, hM, hc, hlM, hst, rfl⟩
    apply xFz rfl
    (try simp only [setZ, setC])
    apply xRet; apply wpE rfl
    · simp! []
      rfl
    exact ⟨_, rfl, ⟨M, hM, fun t => (hc t).trans inL_sortP, by rw [sortP_len] at hlM; exact hlM, rfl⟩, by simp⟩
end K70

/-! stretches: gaps, pieces -/
namespace K70
open PySem Vi SC
local macro_rules | `(tactic| simp! [$ls,*]) => `(tactic| simp +contextual (disch := first | assumption | omega | (simp only [List.length_map, List.length_range, List.length_cons, List.length_nil, List.length_append, List.length_replicate]; first | assumption | omega)) only [bOk, varD_fz, bvarD_ow, bvarD_od, gS0, gSs, p_var, p_bvar, p_int, p_str, p_non, p_bl, p_nop, p_dnew, p_gc, p_tup, p_lst, p_bin, p_neg, p_not, p_cmp, p_chain, p_and, p_or, p_ite, p_call, p_blt, p_isi, p_sub, p_dsub, p_fld, p_isc, p_make, p_meth, p_om2, p_prim, p_lcm, fld_0, fld_1, fld_2, fld_3, isc_ok, obj_ok, p_mdef, p_kmax, p_asked, p_lk, odD_od, mask0, mask_c, ms_fz, ms_ow, ms_od, ms_no, p_trev, t_rev, p_sset, p_slice, p_lc, p_lc2, p_nil, p_cons, bind_v, bind_t2, bind_t3, bind_t4, wipe0, wipeC, setZ, setC, asInt_i, asBl_b, ofO_s, allT_0, allT_1, if_t, if_f, if_and, if_or, bind_if, c_lt, c_gt, c_le, c_ge, c_eq, c_ne, c_is, c_isnot, c_isB, c_isnotB, c_inT, c_inL, c_ninT, c_ninL, n_int, n_bl, n_str, n_tup, n_lst, n_non, b_add, b_sub, b_mul, b_mod, b_fdiv, b_lst, b_tup, b_rep, b_repT, f_lenL, f_lenT, f_abs, f_int, f_intB, f_bool, f_listL, f_listT, f_listD, f_tupL, f_tupT, f_all, f_any, f_sum, f_sumT, f_max2, f_min2, i_int, i_intB, i_intN, i_intS, i_intT, i_intL, i_boolI, i_bool, i_boolN, i_boolS, i_boolT, i_boolL, i_strI, i_strB, i_strN, i_str, i_strT, i_strL, i_tupI, i_tupB, i_tupN, i_tupS, i_tup, i_tupL, i_lstI, i_lstB, i_lstN, i_lstS, i_lstT, i_lst, st_rng, sl_rng, s_lst, s_tup, s_keys, s_rng, lcM_of, lcM_rng, lcR_some, lcR_filter, lcM_some, lcM_filter, lcCM_of, lcCM_rng, lcCM_ok, lcCR_ok, lcP_nil, lcP_cons, m_some, m_none, e_int, e_bl, e_ones, e_pow, sb_small, e_nil0, sset_rng, sl_ints, sl_last, kO, e_intsNil, e_intsNilT, b_rep4, om2_mat, st_rngI, sl_rngI, tn_nat, tn_0, tn_1, tn_2, tn_s, tn_p, slT_from, slL_from, slT_to, slL_to, oN, oS, np_n, np_i, np_v, np_b, np_f, np_s, np_c, np_g, ask_ok, akD_p, akD_u, ofC_n, ofC_s, ms_om, List.length_map, List.length_range, List.map_cons, List.map_nil, List.length_cons, List.length_nil, List.length_append, Nat.zero_add, List.nil_append, List.cons_append, Bool.not_true, Bool.not_false, Bool.and_true, Bool.true_and, Bool.and_false, Bool.false_and, Bool.or_true, Bool.true_or, Bool.or_false, Bool.false_or, Bool.not_not, sub_t0, sub_t1, sub_t2, sub_t3, sub_l0, sub_l1, sub_l2, sub_l3, decide_true, decide_false, if_true, if_false, ite_self, $ls,*])
theorem gaps_ok (k : Nat) {l : List P} (hne : ∀ p ∈ l, p.1 < p.2) (hl : l.length ≤ 1000) (lo hi : Int) : ∃ F : List P, Sep F ∧ (∀ t, inL F t ↔ lo ≤ t ∧ t < hi ∧ ¬ inL l t) ∧ F.length ≤ l.length + 1 ∧ tab gls fns (k + 2) 3 [.fz (psD l), .fz (.int lo), .fz (.int hi)] = .ok (psD F, []) := by
  suffices h : ∃ d, (∃ F : List P, Sep F ∧ (∀ t, inL F t ↔ lo ≤ t ∧ t < hi ∧ ¬ inL l t) ∧ F.length ≤ l.length + 1 ∧ d = psD F) ∧ tab gls fns (k + 2) 3 [.fz (psD l), .fz (.int lo), .fz (.int hi)] = .ok (d, []) by
    obtain ⟨d, ⟨M, h1, h2, h3, rfl⟩, h4⟩ := h
    exact ⟨M, h1, h2, h3, h4⟩
  obtain ⟨M, hM, hc, hlM, hm⟩ := merged_ok k hne hl
  refine fn_ex (fn := f_gaps_between) rfl rfl rfl rfl ?_
  show wp (exB _ _ f_gaps_between.body [.fz (psD l), .fz (.int lo), .fz (.int hi), .no, .no, .no, .no]) _
  unfold f_gaps_between
  dsimp only
  apply xAsgO; apply wpE rfl
  · simp! []
    rfl
  refine ⟨_, rfl, ?_⟩
  (try simp only [setZ, setC])
  apply xAsg; apply wpE rfl
  · simp! []
    rfl
  (try simp only [setZ, setC])
  apply xFor pD M (fun d1 en => ∃ (F : List P) (now : Int) (x5 x6 : Slot), Sep F ∧ (∀ t, inL F t ↔ lo ≤ t ∧ t < hi ∧ t < now ∧ ¬ inL d1 t) ∧ F.length ≤ d1.length ∧ (∀ q ∈ F, q.2 < now) ∧ (∀ q ∈ d1, q.2 ≤ now) ∧ lo ≤ now ∧ (now = lo ∨ ∃ q ∈ d1, now = q.2) ∧ en = [.fz (psD l), .fz (.int lo), .fz (.int hi), .ow (F.map pD), .fz (.int now), x5, x6]) rfl
  · simp! [hm]
    rfl
  · rfl
  · exact ⟨[], lo, _, _, ⟨(fun _ h => nomatch h), List.Pairwise.nil⟩, fun t => by unfold inL; simp; omega, Nat.le_refl _, (fun _ h => nomatch h), (fun _ h => nomatch h), Int.le_refl _, .inl rfl, rfl⟩
  · rintro d1 p d2 _ e ⟨F, now, x5, x6, hF, hcF, hlF, hqF, hq1, hlo, hno, rfl⟩
    obtain ⟨a, b⟩ := p
    have hld : d1.length < M.length := by
      have := congrArg List.length e
      rw [List.length_append, List.length_cons] at this
      omega
    have hab : a < b := hM.ne (a, b) (by rw [e]; simp)
    have hap : ∀ q ∈ d1, q.2 < a := fun q hq => by
      have h0 := hM.ap
      rw [e] at h0
      exact (List.pairwise_append.mp h0).2.2 q hq (a, b) List.mem_cons_self
    have hin : ∀ t, now ≤ t → ¬ inL d1 t := fun t ht ⟨q, hq, h1, h2⟩ => by
      have := hq1 q hq
      omega
    have hq1' : ∀ q ∈ d1 ++ [(a, b)], q.2 ≤ max now b := fun q hq => by
      rcases List.mem_append.mp hq with hq | hq
      · have := hq1 q hq; omega
      · rw [List.mem_singleton.mp hq]; dsimp only; omega
    have hno' : max now b = lo ∨ ∃ q ∈ d1 ++ [(a, b)], max now b = q.2 := by
      by_cases c : now ≤ b
      · exact .inr ⟨(a, b), by simp, by dsimp only; omega⟩
      · rcases hno with h | ⟨q, hq, h⟩
        · exact .inl (by omega)
        · exact .inr ⟨q, List.mem_append_left _ hq, by omega⟩
    have hnow : now = lo ∨ now < a := by
      rcases hno with h | ⟨q, hq, h⟩
      · exact .inl h
      · have := hap q hq
        exact .inr (by omega)
    refine ⟨_, bind_t2, ?_⟩
    (try simp only [setZ, setC])
    apply xBoth (t := decide (now < a) && decide (now < hi)) rfl
    · simp! [if_and]
    · intro c
      rw [Bool.and_eq_true, decide_eq_true_eq, decide_eq_true_eq] at c
      apply xApp rfl
      apply wpE rfl
      · simp! []
        rfl
      refine ⟨_, rfl, by rw [List.length_map]; unfold line; omega, ?_⟩
      (try simp only [setZ, setC])
      apply xNil
      show wp _ _
      apply xAsg; apply wpE rfl
      · simp! []
        rfl
      (try simp only [setZ, setC])
      apply xNil
      refine ⟨F ++ [(now, min a hi)], max now b, _, _, hF.snoc (by dsimp only; omega) hqF, fun t => ?_, by simp; omega, fun q hq => ?_, hq1', by omega, hno', by rw [List.map_append]; rfl⟩
      · rw [inL_snoc, hcF t, inL_snoc (l := d1)]
        have h1 := hin t
        unfold inP
        dsimp only
        by_cases c2 : now ≤ t
        · have h1 := h1 c2
          simp only [h1, false_or, not_false_eq_true, and_true]
          omega
        · by_cases c3 : inL d1 t
          · simp only [c3, true_or, not_true_eq_false, and_false, false_or, iff_false]
            omega
          · simp only [c3, false_or, not_false_eq_true, and_true]
            omega
      · rcases List.mem_append.mp hq with hq | hq
        · have := hqF q hq; omega
        · rw [List.mem_singleton.mp hq]; dsimp only; omega
    · intro c
      have c : ¬ (now < a ∧ now < hi) := fun ⟨c1, c2⟩ => by rw [decide_eq_true c1, decide_eq_true c2] at c; cases c
      apply xNil
      show wp _ _
      apply xAsg; apply wpE rfl
      · simp! []
        rfl
      (try simp only [setZ, setC])
      apply xNil
      refine ⟨F, max now b, _, _, hF, fun t => ?_, by simp; omega, fun q hq => by have := hqF q hq; omega, hq1', by omega, hno', rfl⟩
      rw [hcF t, inL_snoc (l := d1)]
      have h1 := hin t
      unfold inP
      dsimp only
      by_cases c2 : now ≤ t
      · have h1 := h1 c2
        simp only [h1, false_or, not_false_eq_true, and_true]
        omega
      · by_cases c3 : inL d1 t
        · simp only [c3, true_or, not_true_eq_false, and_false]
        · simp only [c3, false_or, not_false_eq_true, and_true]
          omega
  · rintro _ ⟨F, now, x5, x6, hF, hcF, hlF, hqF, hq1, hlo, hno, rfl⟩
    have hin : ∀ t, now ≤ t → ¬ inL M t := fun t ht ⟨q, hq, h1, h2⟩ => by
      have := hq1 q hq
      omega
    apply xBoth (t := decide (now < hi)) rfl
    · simp! []
    · intro c
      have c := of_decide_eq_true c
      apply xApp rfl
      apply wpE rfl
      · simp! []
        rfl
      refine ⟨_, rfl, by rw [List.length_map]; unfold line; omega, ?_⟩
      (try simp only [setZ, setC])
      apply xNil
      show wp _ _
      apply xFz rfl
      (try simp only [setZ, setC])
      apply xRet; apply wpE rfl
      · simp! []
        rfl
      refine ⟨_, rfl, ⟨F ++ [(now, hi)], hF.snoc c hqF, fun t => ?_, by simp; omega, by unfold psD; rw [List.map_append]; rfl⟩, by simp⟩
      rw [inL_snoc, hcF t, ← hc t]
      have h1 := hin t
      unfold inP
      dsimp only
      by_cases c2 : now ≤ t
      · have h1 := h1 c2
        simp only [h1, not_false_eq_true, and_true]
        omega
      · by_cases c3 : inL M t
        · simp only [c3, not_true_eq_false, and_false, false_or, iff_false]
          omega
        · simp only [c3, not_false_eq_true, and_true]
          omega
    · intro c
      have c := of_decide_eq_false c
      apply xNil
      show wp _ _
      apply xFz rfl
      (try simp only [setZ, setC])
      apply xRet; apply wpE rfl
      · simp! []
        rfl
      refine ⟨_, rfl, ⟨F, hF, fun t => ?_, by omega, rfl⟩, by simp⟩
      rw [hcF t, ← hc t]
      have h1 := hin t
      by_cases c2 : now ≤ t
      · have h1 := h1 c2
        simp only [h1, not_false_eq_true, and_true]
        omega
      · by_cases c3 : inL M t
        · simp only [c3, not_true_eq_false, and_false]
        · simp only [c3, not_false_eq_true, and_true]
          omega
/-- rows of 0 and 1 -/
def bitD (n : Nat) (B : Nat → Bool) : D := .lst ((List.range n).map fun k => .int (if B k = true then 1 else 0))
def oN : Option Nat → D
  | none => .non
  | some s => .int ((s : Nat) : Int)
theorem bit_eq {b : Bool} : decide ((if b = true then (1 : Int) else 0) = 1) = b := by cases b <;> rfl
theorem oN_non {s : Option Nat} : isNon (oN s) = s.isNone := by cases s <;> rfl
theorem pieces_ok (k : Nat) {n : Nat} (hn : n ≤ 1000) (B : Nat → Bool) (lo : Int) : ∃ F : List P, Sep F ∧ (∀ t, inL F t ↔ lo ≤ t ∧ t < lo + ((n : Nat) : Int) ∧ B (t - lo).toNat = true) ∧ tab gls fns (k + 1) 6 [.fz (bitD n B), .fz (.int lo)] = .ok (psD F, []) := by
  suffices h : ∃ d, (∃ F : List P, Sep F ∧ (∀ t, inL F t ↔ lo ≤ t ∧ t < lo + ((n : Nat) : Int) ∧ B (t - lo).toNat = true) ∧ d = psD F) ∧ tab gls fns (k + 1) 6 [.fz (bitD n B), .fz (.int lo)] = .ok (d, []) by
    obtain ⟨d, ⟨M, h1, h2, rfl⟩, h4⟩ := h
    exact ⟨M, h1, h2, h4⟩
  refine fn_ex (fn := f__law_pieces) rfl rfl rfl rfl ?_
  show wp (exB _ _ f__law_pieces.body [.fz (bitD n B), .fz (.int lo), .no, .no, .no, .no]) _
  unfold f__law_pieces
  dsimp only
  apply xPar; apply wpA rfl
  · simp! []
    rfl
  refine ⟨_, rfl, ?_⟩
  (try simp only [setZ, setC])
  have hlen : bfn .len [bitD n B] = .ok (.int ((n : Nat) : Int)) := by
    show Res.ok (D.int ((((List.range n).map _).length : Nat) : Int)) = _
    rw [List.length_map, List.length_range]
  have hl : n + 1 ≤ line := by unfold line; omega
  apply xFor (fun q : Nat => D.int ((q : Nat) : Int)) (List.range (n + 1)) (fun d1 en => ∃ (F : List P) (o : Option Nat) (x4 x5 : Slot), Sep F ∧ (∀ s, o = some s → s < d1.length ∧ s < n ∧ ∀ j, s ≤ j → j < d1.length → j < n ∧ B j = true) ∧ (∀ t, inL F t ↔ lo ≤ t ∧ t < lo + ((o.getD d1.length : Nat) : Int) ∧ t < lo + ((n : Nat) : Int) ∧ B (t - lo).toNat = true) ∧ F.length ≤ d1.length ∧ (∀ q ∈ F, q.2 < lo + ((o.getD d1.length : Nat) : Int)) ∧ (d1.length = n + 1 → o = none) ∧ en = [.fz (bitD n B), .fz (.int lo), .ow (F.map pD), .fz (oN o), x4, x5]) rfl
  · simp! [hlen]
    rfl
  · have := s_rng hl
    rw [show ((n : Nat) : Int) + 1 = ((n + 1 : Nat) : Int) by omega]
    exact this
  · exact ⟨[], none, _, _, ⟨(fun _ h => nomatch h), List.Pairwise.nil⟩, (fun _ h => nomatch h), fun t => by unfold inL; simp; omega, Nat.le_refl _, (fun _ h => nomatch h), fun _ => rfl, rfl⟩
  · rintro d1 j d2 _ e ⟨F, o, x4, x5, hF, ho, hcF, hlF, hqF, hend, rfl⟩
    obtain ⟨hj, rfl⟩ := rng_split e
    simp only [List.length_range, List.length_append, List.length_cons, List.length_nil, Nat.zero_add] at *
    refine wp_ok ?_
    (try simp only [setZ, setC])
    have hh : pv (tab gls fns k) gls (.and (.cmp .lt (.var 4) (.blt .len (.cons (.var 0) .nil))) (.cmp .eq (.sub (.var 0) (.var 4)) (.int 1))) [.fz (bitD n B), .fz (.int lo), .ow (F.map pD), .fz (oN o), .fz (.int ((j : Nat) : Int)), x5] = .ok (.bl (decide (j < n) && B j)) := by
      by_cases c : j < n
      · have h1 : subD (bitD n B) (.int ((j : Nat) : Int)) = .ok (.int (if B j = true then 1 else 0)) := sl_rng c
        have h2 : decide (((j : Nat) : Int) < ((n : Nat) : Int)) = true := decide_eq_true (by omega)
        simp! [hlen, h1, h2, e_int, bit_eq]
        rw [decide_eq_true c]
        rfl
      · have h2 : decide (((j : Nat) : Int) < ((n : Nat) : Int)) = false := decide_eq_false (by omega)
        simp! [hlen, h2]
        rw [decide_eq_false c]
        rfl
    apply xAsg; apply wpE rfl
    · exact hh
    (try simp only [setZ, setC])
    cases hb : decide (j < n) && B j with
    | true =>
      rw [Bool.and_eq_true, decide_eq_true_eq] at hb
      cases o with
      | none =>
        apply xThen rfl
        · simp! [oN_non]
          rfl
        apply xAsg; apply wpE rfl
        · simp! []
          rfl
        (try simp only [setZ, setC])
        apply xNil
        show wp _ _
        apply xSkip rfl
        · simp! []
        apply xNil
        refine ⟨F, some j, _, _, hF, fun s h => ?_, fun t => ?_, by omega, ?_, fun h => by omega, rfl⟩
        · cases h
          exact ⟨by omega, hb.1, fun i h1 h2 => by
            have : i = j := by omega
            rw [this]; exact hb⟩
        · exact hcF t
        · exact hqF
      | some s =>
        obtain ⟨h1, h2, h3⟩ := ho s rfl
        apply xSkip rfl
        · simp! [oN_non]
          rfl
        apply xSkip rfl
        · simp! []
        apply xNil
        refine ⟨F, some s, _, _, hF, fun s' h => ?_, fun t => hcF t, by omega, hqF, fun h => by omega, rfl⟩
        cases h
        exact ⟨by omega, h2, fun i h4 h5 => by
          by_cases c : i < j
          · exact h3 i h4 c
          · have : i = j := by omega
            rw [this]; exact hb⟩
    | false =>
      have hnb : ∀ t : Int, (t - lo).toNat = j → t < lo + ((n : Nat) : Int) → lo ≤ t → ¬ B (t - lo).toNat = true := fun t h1 h2 h3 h4 => by
        rw [h1] at h4
        rw [h4, decide_eq_true (show j < n by omega)] at hb
        cases hb
      apply xSkip rfl
      · simp! []
      cases o with
      | none =>
        apply xSkip rfl
        · simp! [oN_non]
          rfl
        apply xNil
        refine ⟨F, none, _, _, hF, (fun _ h => nomatch h), fun t => ?_, by omega, fun q hq => ?_, fun _ => rfl, rfl⟩
        · rw [hcF t]
          show lo ≤ t ∧ t < lo + ((j : Nat) : Int) ∧ t < lo + ((n : Nat) : Int) ∧ _ ↔ lo ≤ t ∧ t < lo + ((j + 1 : Nat) : Int) ∧ t < lo + ((n : Nat) : Int) ∧ _
          constructor
          · rintro ⟨h1, h2, h3, h4⟩
            exact ⟨h1, by omega, h3, h4⟩
          · rintro ⟨h1, h2, h3, h4⟩
            refine ⟨h1, ?_, h3, h4⟩
            by_cases c : t < lo + ((j : Nat) : Int)
            · exact c
            · exact absurd h4 (hnb t (by omega) h3 h1)
        · have : q.2 < lo + ((j : Nat) : Int) := hqF q hq
          show q.2 < lo + ((j + 1 : Nat) : Int)
          omega
      | some s =>
        obtain ⟨h1, h2, h3⟩ := ho s rfl
        apply xThen rfl
        · simp! [oN_non]
          rfl
        apply xApp rfl
        apply wpE rfl
        · simp! [oN]
          rfl
        refine ⟨_, rfl, by rw [List.length_map]; unfold line; omega, ?_⟩
        (try simp only [setZ, setC])
        apply xAsg; apply wpE rfl
        · simp! []
          rfl
        (try simp only [setZ, setC])
        apply xNil
        show wp _ _
        apply xNil
        have hjn : j ≤ n := by omega
        refine ⟨F ++ [(lo + ((s : Nat) : Int), lo + ((j : Nat) : Int))], none, _, _, hF.snoc (by dsimp only; omega) (fun q hq => hqF q hq), (fun _ h => nomatch h), fun t => ?_, by simp; omega, fun q hq => ?_, fun _ => rfl, by rw [List.map_append]; rfl⟩
        · rw [inL_snoc, hcF t]
          show (lo ≤ t ∧ t < lo + ((s : Nat) : Int) ∧ t < lo + ((n : Nat) : Int) ∧ _) ∨ _ ↔ lo ≤ t ∧ t < lo + ((j + 1 : Nat) : Int) ∧ t < lo + ((n : Nat) : Int) ∧ _
          unfold inP
          dsimp only
          constructor
          · rintro (⟨h4, h5, h6, h7⟩ | ⟨h4, h5⟩)
            · exact ⟨h4, by omega, h6, h7⟩
            · exact ⟨by omega, by omega, by omega, (h3 _ (by omega) (by omega)).2⟩
          · rintro ⟨h4, h5, h6, h7⟩
            by_cases c : t < lo + ((s : Nat) : Int)
            · exact .inl ⟨h4, c, h6, h7⟩
            · refine .inr ⟨by omega, ?_⟩
              by_cases c2 : t < lo + ((j : Nat) : Int)
              · exact c2
              · exact absurd h7 (hnb t (by omega) h6 h4)
        · show q.2 < lo + ((j + 1 : Nat) : Int)
          rcases List.mem_append.mp hq with hq | hq
          · have : q.2 < lo + ((s : Nat) : Int) := hqF q hq
            omega
          · rw [List.mem_singleton.mp hq]; dsimp only; omega
  · rintro _ ⟨F, o, x4, x5, hF, ho, hcF, hlF, hqF, hend, rfl⟩
    rw [List.length_range] at *
    cases hend rfl
    apply xFz rfl
    (try simp only [setZ, setC])
    apply xRet; apply wpE rfl
    · simp! []
      rfl
    refine ⟨_, rfl, ⟨F, hF, fun t => ?_, rfl⟩, by simp⟩
    rw [hcF t]
    show lo ≤ t ∧ t < lo + ((n + 1 : Nat) : Int) ∧ t < lo + ((n : Nat) : Int) ∧ _ ↔ _
    exact ⟨fun ⟨h1, h2, h3, h4⟩ => ⟨h1, h3, h4⟩, fun ⟨h1, h3, h4⟩ => ⟨h1, by omega, h3, h4⟩⟩
end K70

/-! stretches: the law's second half -/
namespace K70
open PySem Vi SC
variable {ns : List Int}
def QT : Vi.Flow × En → Prop := fun r => r.1 = .ret (.bl true) ∧ 1 ≤ r.2.length
theorem same (k n : Nat) (d : D) (h : gd n d = true) (hn : n ≤ 8) (hk : n ≤ k) : tab gls fns (k + 1) 5 [.fz d, .fz d] = .ok (.bl true, []) := same_ok (i := 5) rfl n d k h hk (by omega)
theorem b_shl1 {n : Nat} (h : n ≤ 1000000) : binD .shl (.int 1) (.int ((n : Nat) : Int)) = .ok (.int ((2 ^ n : Nat) : Int)) := by
  show (if 0 ≤ ((n : Nat) : Int) ∧ ((n : Nat) : Int) ≤ 1000000 ∧ (1 : Int).natAbs < 2 ^ 64 then Res.ok (D.int (1 * 2 ^ ((n : Nat) : Int).toNat)) else .bad) = _
  rw [if_pos ⟨by omega, by omega, by decide⟩, Int.one_mul, Int.toNat_natCast]
  norm_cast
theorem b_shrN {m k : Nat} : binD .shr (.int ((m : Nat) : Int)) (.int ((k : Nat) : Int)) = .ok (.int ((m / 2 ^ k : Nat) : Int)) := by
  show (if 0 ≤ ((k : Nat) : Int) then Res.ok (D.int (((m : Nat) : Int) / 2 ^ ((k : Nat) : Int).toNat)) else .bad) = _
  rw [if_pos (by omega), Int.toNat_natCast]
  norm_cast
theorem b_bit {x : Nat} : binD .band (.int ((x : Nat) : Int)) (.int 1) = .ok (.int ((x % 2 : Nat) : Int)) := by
  show Res.ok (D.int (Builtin.bitAnd ((x : Nat) : Int) 1)) = _
  rw [PyProof.Rows.bitAnd_m1]
  norm_cast
local macro_rules | `(tactic| simp! [$ls,*]) => `(tactic| simp +contextual (disch := first | assumption | omega | (simp only [List.length_map, List.length_range, List.length_cons, List.length_nil, List.length_append, List.length_replicate]; first | assumption | omega)) only [bOk, varD_fz, bvarD_ow, bvarD_od, gS0, gSs, p_var, p_bvar, p_int, p_str, p_non, p_bl, p_nop, p_dnew, p_gc, p_tup, p_lst, p_bin, p_neg, p_not, p_cmp, p_chain, p_and, p_or, p_ite, p_call, p_blt, p_isi, p_sub, p_dsub, p_fld, p_isc, p_make, p_meth, p_om2, p_prim, p_lcm, fld_0, fld_1, fld_2, fld_3, isc_ok, obj_ok, p_mdef, p_kmax, p_asked, p_lk, odD_od, mask0, mask_c, ms_fz, ms_ow, ms_od, ms_no, p_trev, t_rev, p_sset, p_slice, p_lc, p_lc2, p_nil, p_cons, bind_v, bind_t2, bind_t3, bind_t4, wipe0, wipeC, setZ, setC, asInt_i, asBl_b, ofO_s, allT_0, allT_1, if_t, if_f, if_and, if_or, bind_if, c_lt, c_gt, c_le, c_ge, c_eq, c_ne, c_is, c_isnot, c_isB, c_isnotB, c_inT, c_inL, c_ninT, c_ninL, n_int, n_bl, n_str, n_tup, n_lst, n_non, b_add, b_sub, b_mul, b_mod, b_fdiv, b_lst, b_tup, b_rep, b_repT, f_lenL, f_lenT, f_abs, f_int, f_intB, f_bool, f_listL, f_listT, f_listD, f_tupL, f_tupT, f_all, f_any, f_sum, f_sumT, f_max2, f_min2, i_int, i_intB, i_intN, i_intS, i_intT, i_intL, i_boolI, i_bool, i_boolN, i_boolS, i_boolT, i_boolL, i_strI, i_strB, i_strN, i_str, i_strT, i_strL, i_tupI, i_tupB, i_tupN, i_tupS, i_tup, i_tupL, i_lstI, i_lstB, i_lstN, i_lstS, i_lstT, i_lst, st_rng, sl_rng, s_lst, s_tup, s_keys, s_rng, lcM_of, lcM_rng, lcR_some, lcR_filter, lcM_some, lcM_filter, lcCM_of, lcCM_rng, lcCM_ok, lcCR_ok, lcP_nil, lcP_cons, m_some, m_none, e_int, e_bl, e_ones, e_pow, sb_small, e_nil0, sset_rng, sl_ints, sl_last, kO, e_intsNil, e_intsNilT, b_rep4, om2_mat, st_rngI, sl_rngI, tn_nat, tn_0, tn_1, tn_2, tn_s, tn_p, slT_from, slL_from, slT_to, slL_to, oN, oS, np_n, np_i, np_v, np_b, np_f, np_s, np_c, np_g, ask_ok, akD_p, akD_u, ofC_n, ofC_s, ms_om, List.length_map, List.length_range, List.map_cons, List.map_nil, List.length_cons, List.length_nil, List.length_append, Nat.zero_add, List.nil_append, List.cons_append, Bool.not_true, Bool.not_false, Bool.and_true, Bool.true_and, Bool.and_false, Bool.false_and, Bool.or_true, Bool.true_or, Bool.or_false, Bool.false_or, Bool.not_not, sub_t0, sub_t1, sub_t2, sub_t3, sub_l0, sub_l1, sub_l2, sub_l3, decide_true, decide_false, if_true, if_false, ite_self, $ls,*])
section
variable {n : Nat} {a b : Nat → Int}
def chs (n m : Nat) : List Nat := (List.range n).filter fun k => decide (((m / 2 ^ k % 2 : Nat) : Int) = 1)
theorem chs_lt {m : Nat} : ∀ k ∈ chs n m, k < n := fun k hk => List.mem_range.mp (List.mem_filter.mp hk).1
/-- the times that none of these has -/
def uncov (a b : Nat → Int) (S : List Nat) (lo : Int) (m : Nat) : List Nat := (List.range m).filter fun q => (S.filter (has a b (lo + ((q : Nat) : Int)))).isEmpty
theorem mem_uncov {S : List Nat} {lo : Int} {m q : Nat} : q ∈ uncov a b S lo m ↔ q < m ∧ ∀ k ∈ S, ¬ cov a b k (lo + ((q : Nat) : Int)) := by
  unfold uncov
  rw [List.mem_filter, List.mem_range, List.isEmpty_iff, List.filter_eq_nil_iff]
  constructor
  · exact fun ⟨h1, h2⟩ => ⟨h1, fun k hk hc => h2 k hk (has_iff.mpr hc)⟩
  · exact fun ⟨h1, h2⟩ => ⟨h1, fun k hk hc => h2 k hk (has_iff.mp hc)⟩
theorem uncov_nil {S : List Nat} {lo hi : Int} : (uncov a b S lo (hi - lo).toNat).isEmpty = true ↔ Covers a b S lo hi := by
  rw [List.isEmpty_iff]
  constructor
  · intro h t h1 h2
    apply Classical.byContradiction
    intro z
    have : (t - lo).toNat ∈ uncov a b S lo (hi - lo).toNat := mem_uncov.mpr ⟨by omega, fun k hk hc => z ⟨k, hk, by rw [show lo + (((t - lo).toNat : Nat) : Int) = t by omega] at hc; exact hc⟩⟩
    rw [h] at this
    cases this
  · intro h
    refine List.eq_nil_iff_forall_not_mem.mpr fun q hq => ?_
    obtain ⟨h1, h2⟩ := mem_uncov.mp hq
    obtain ⟨k, hk, hc⟩ := h (lo + ((q : Nat) : Int)) (by omega) (by omega)
    exact h2 k hk hc
theorem t21 {lo hi : Int} (hn : n ≤ 1000) (hd : hi - lo ≤ 1000) {out : Option (List Nat)} (hg : ∀ l, out = some l → Greedy a b n hi lo l) (hlen : ∀ l, out = some l → l.length ≤ 1000) (x0 x1 x3 x7 x8 x9 x10 x11 x12 x13 x14 x16 x17 x18 x19 x20 x21 : Slot) :
    wp (exB (tab gls fns 5) gls (tailB 21 f_law.body) [x0, x1, .fz (spD n a b), x3, .fz (.int lo), .fz (.int ((n : Nat) : Int)), .fz (.int hi), x7, x8, x9, x10, x11, x12, x13, x14, .fz (oL out), x16, x17, x18, x19, x20, x21]) QT := by
  unfold f_law
  dsimp only [tailB]
  apply xPar; apply wpA rfl
  · simp! []
    rfl
  refine ⟨_, rfl, ?_⟩
  (try simp only [setZ, setC])
  have hl : n ≤ line := by unfold line; omega
  cases out with
  | none =>
    apply xWhl (m := 0) (fun m en => en = [x0, x1, .fz (spD n a b), x3, .fz (.int lo), .fz (.int ((n : Nat) : Int)), .fz (.int hi), x7, x8, x9, x10, x11, x12, x13, x14, .fz (oL none), x16, x17, x18, .fz (.int lo), .ow [], x21]) (by unfold fuel; omega) rfl
    · rfl
    · rintro m _ rfl
      refine ⟨false, ?_, (fun h => nomatch h), fun _ => ?_⟩
      · simp! [oL]
      · apply xRet; apply wpE rfl
        · simp! [oL]
          rfl
        exact ⟨rfl, by simp⟩
  | some L =>
    have hg := hg L rfl
    have hL := hlen L rfl
    have hnl : isNon (nL L) = false := rfl
    apply xWhl (m := L.length) (fun m en => ∃ (done rest : List Nat) (now : Int) (x21 : Slot), L = done ++ rest ∧ m = rest.length ∧ Greedy a b n hi now rest ∧ en = [x0, x1, .fz (spD n a b), x3, .fz (.int lo), .fz (.int ((n : Nat) : Int)), .fz (.int hi), x7, x8, x9, x10, x11, x12, x13, x14, .fz (oL (some L)), x16, x17, x18, .fz (.int now), .ow (done.map fun k => .int ((k : Nat) : Int)), x21]) (by unfold fuel; omega) rfl
    · exact ⟨[], L, lo, x21, rfl, rfl, hg, rfl⟩
    · rintro m _ ⟨done, rest, now, x21, hL2, rfl, hgr, rfl⟩
      refine ⟨decide (now < hi), ?_, fun ht => ?_, fun hf => ?_⟩
      · simp! [oL, hnl]
      · have ht := of_decide_eq_true ht
        cases hgr with
        | done h => omega
        | @step _ k rest h1 hk hc htie hgr =>
          have h1 : ∀ j, j < n → subD (spD n a b) (.int ((j : Nat) : Int)) = .ok (.tup [.int (a j), .int (b j)]) := fun j hj => sp_at hj
          apply xAsgO; apply wpE (d := .lst (((List.range n).filter (has a b now)).map fun k => .tup [.int (0 - b k), .int ((k : Nat) : Int)])) rfl
          · simp! [h1]
            rfl
          refine ⟨_, rfl, ?_⟩
          (try simp only [setZ, setC])
          apply xFz rfl
          (try simp only [setZ, setC])
          have hne : (List.range n).filter (has a b now) ≠ [] := fun z => by
            have : k ∈ (List.range n).filter (has a b now) := List.mem_filter.mpr ⟨List.mem_range.mpr hk, has_iff.mpr hc⟩
            rw [z] at this
            cases this
          obtain ⟨x, hx, hx2, hx3⟩ := f_minTwo (g := fun k => (0 - b k, ((k : Nat) : Int))) hne
          obtain ⟨hxn, hxc⟩ := List.mem_filter.mp hx
          have hxn := List.mem_range.mp hxn
          have hxc := has_iff.mp hxc
          have hxk : x = k := by
            have h3 := hx3 k (List.mem_filter.mpr ⟨List.mem_range.mpr hk, has_iff.mpr hc⟩)
            have h4 : ¬ (lt2 (0 - b k, ((k : Nat) : Int)) (0 - b x, ((x : Nat) : Int)) = true) := by rw [h3]; simp
            rw [lt2_iff] at h4
            dsimp only at h4
            have := htie x hxn hxc
            omega
          subst hxk
          apply xApp rfl
          apply wpE rfl
          · simp! [hx2]
            rfl
          refine ⟨_, rfl, by rw [List.length_map]; have := congrArg List.length hL2; simp at this; unfold line; omega, ?_⟩
          (try simp only [setZ, setC])
          have q := sp_at (a := a) (b := b) hxn
          apply xAsg; apply wpE rfl
          · simp! [q]
            rfl
          (try simp only [setZ, setC])
          apply xNil
          exact ⟨rest.length, by simp, done ++ [x], rest, b x, _, by rw [hL2]; simp, rfl, hgr, by rw [List.map_append]; rfl⟩
      · have hf := of_decide_eq_false hf
        cases hgr with
        | step h => omega
        | done h =>
          rw [List.append_nil] at hL2
          subst hL2
          have e1 : eqD (nL L) (.lst (L.map fun k => .int ((k : Nat) : Int))) = .ok true := e_self (d := nL L) (by
            unfold nL
            simp only [gd, Bool.and_eq_true, decide_eq_true_eq]
            exact ⟨gd_map fun a _ => rfl, by rw [List.length_map]; unfold line; omega⟩)
          apply xRet; apply wpE rfl
          · simp! [oL, e1, hnl]
            rfl
          exact ⟨rfl, by simp⟩
/-- what is known of the fewest -/
structure Out (a b : Nat → Int) (n : Nat) (lo hi : Int) (out : Option (List Nat)) : Prop where
  some : ∀ l, out = some l → Greedy a b n hi lo l
  none : out = none → ∃ t, lo ≤ t ∧ t < hi ∧ ∀ k, k < n → ¬ cov a b k t
theorem greedy_len {now hi : Int} {l : List Nat} (hg : Greedy a b n hi now l) : l.length ≤ n := by
  have h1 := len_nodup hg.nodup fun k hk => (hg.ends k hk).2
  have h2 := List.length_filter_le (fun k => decide (k ∈ l)) (List.range n)
  rw [List.length_range] at h2
  omega
/-- the least over all masks is what is told -/
theorem least_is {lo hi : Int} {out : Option (List Nat)} (ho : Out a b n lo hi out) {least : Option Nat}
    (h1 : ∀ c, least = some c → (∃ m, m < 2 ^ n ∧ Covers a b (chs n m) lo hi ∧ (chs n m).length = c) ∧ ∀ m, m < 2 ^ n → Covers a b (chs n m) lo hi → c ≤ (chs n m).length)
    (h2 : least = none → ∀ m, m < 2 ^ n → ¬ Covers a b (chs n m) lo hi) : least = out.map List.length := by
  cases out with
  | none =>
    cases least with
    | none => rfl
    | some c =>
      obtain ⟨⟨m, _, hm, _⟩, _⟩ := h1 c rfl
      obtain ⟨t, t1, t2, t3⟩ := ho.none rfl
      exact absurd hm (no_cover t1 t2 t3 _ chs_lt)
  | some l =>
    have hg := ho.some l rfl
    obtain ⟨m, hm, hmk⟩ := mask_of (fun k => decide (k ∈ l)) n
    have e : chs n m = (List.range n).filter fun k => decide (k ∈ l) := List.filter_congr fun k hk => by
      have := hmk k (List.mem_range.mp hk)
      rw [decide_eq_true_eq] at this
      exact decide_eq_decide.mpr (by rw [← this]; omega)
    have hlen : (chs n m).length = l.length := by rw [e]; exact len_nodup hg.nodup fun k hk => (hg.ends k hk).2
    have hcov : Covers a b (chs n m) lo hi := fun t t1 t2 => by
      obtain ⟨k, hk, hc⟩ := hg.covers t t1 t2
      exact ⟨k, by rw [e]; exact List.mem_filter.mpr ⟨List.mem_range.mpr (hg.ends k hk).2, by simpa using hk⟩, hc⟩
    cases least with
    | none => exact absurd hcov (h2 rfl m hm)
    | some c =>
      obtain ⟨⟨m', hm', hc', hl'⟩, hall⟩ := h1 c rfl
      have := hall m hm hcov
      have := hg.least (chs n m') chs_lt hc'
      show some c = some l.length
      congr 1
      omega
theorem missed_none {S : List Nat} {lo hi : Int} {o : Option Int} (h : Missed a b S lo hi o) (hc : Covers a b S lo hi) : o = none := by
  cases o with
  | none => rfl
  | some t =>
    obtain ⟨h1, h2, h3, _⟩ := h.1 t rfl
    obtain ⟨k, hk, hck⟩ := hc t h1 h2
    exact absurd hck (h3 k hk)
theorem t17 {lo hi : Int} (hn : n ≤ 20) (hl1 : -100 ≤ lo) (hl2 : lo ≤ 100) (hh1 : lo ≤ hi) (hh2 : hi ≤ 100) (x0 x1 x3 x7 x8 x9 x10 x11 x12 x13 x14 x15 x16 x17 x18 x19 x20 x21 : Slot) :
    wp (exB (tab gls fns 5) gls (tailB 17 f_law.body) [x0, x1, .fz (spD n a b), x3, .fz (.int lo), .fz (.int ((n : Nat) : Int)), .fz (.int hi), x7, x8, x9, x10, x11, x12, x13, x14, x15, x16, x17, x18, x19, x20, x21]) QT := by
  obtain ⟨out, ⟨ho1, ho2⟩, hfew⟩ := few_ok (n := n) (a := a) (b := b) 4 (by omega) (lo := lo) (hi := hi) (by omega)
  have ho : Out a b n lo hi out := ⟨ho1, ho2⟩
  have nxt := fun x9 x13 x16 x17 x18 => t21 (n := n) (a := a) (b := b) (lo := lo) (hi := hi) (by omega) (by omega) ho1 (fun l h => Nat.le_trans (greedy_len (ho1 l h)) (by omega)) x0 x1 x3 x7 x8 x9 x10 x11 x12 x13 x14 x16 x17 x18 x19 x20 x21
  unfold f_law at nxt ⊢
  dsimp only [tailB] at nxt ⊢
  apply xAsg; apply wpE rfl
  · simp! [hfew]
    rfl
  (try simp only [setZ, setC])
  apply xAsg; apply wpE rfl
  · simp! []
    rfl
  (try simp only [setZ, setC])
  have hpn : 2 ^ n ≤ 1048576 := Nat.le_trans (Nat.pow_le_pow_right (by decide) hn) (by decide)
  have hlp : 2 ^ n ≤ line := by unfold line; omega
  have hl : n ≤ line := by unfold line; omega
  have hsh := b_shl1 (n := n) (by omega)
  have rg := rng2_t (lo := lo) (hi := hi) (by omega) (by omega) (by omega) (by omega)
  apply xFor (fun q : Nat => D.int ((q : Nat) : Int)) (List.range (2 ^ n)) (fun d1 en => ∃ (least : Option Nat) (x17 x18 : Slot), (∀ c, least = some c → (∃ m, m < d1.length ∧ Covers a b (chs n m) lo hi ∧ (chs n m).length = c) ∧ ∀ m, m < d1.length → Covers a b (chs n m) lo hi → c ≤ (chs n m).length) ∧ (least = none → ∀ m, m < d1.length → ¬ Covers a b (chs n m) lo hi) ∧ en = [x0, x1, .fz (spD n a b), x3, .fz (.int lo), .fz (.int ((n : Nat) : Int)), .fz (.int hi), x7, x8, x9, x10, x11, x12, x13, x14, .fz (oL out), .fz (oN least), x17, x18, x19, x20, x21]) rfl
  · simp! [hsh]
    rfl
  · exact s_rng hlp
  · exact ⟨none, _, _, (fun _ h => nomatch h), fun _ m h => by simp at h, rfl⟩
  · rintro d1 j d2 _ e ⟨least, x17, x18, i1, i2, rfl⟩
    obtain ⟨hj, rfl⟩ := rng_split e
    simp only [List.length_range, List.length_append, List.length_cons, List.length_nil, Nat.zero_add] at *
    refine wp_ok ?_
    (try simp only [setZ, setC])
    apply xAsgO; apply wpE (d := nL (chs n j)) rfl
    · simp! [b_shrN, b_bit, e_int]
      rfl
    refine ⟨_, rfl, ?_⟩
    (try simp only [setZ, setC])
    apply xFz rfl
    (try simp only [setZ, setC])
    have e1 : ∀ i ∈ chs n j, subD (spD n a b) (.int ((i : Nat) : Int)) = .ok (.tup [.int (a i), .int (b i)]) := fun i hi => sp_at (chs_lt i hi)
    have hun := uncov_nil (a := a) (b := b) (S := chs n j) (lo := lo) (hi := hi)
    apply xBoth (t := (uncov a b (chs n j) lo (hi - lo).toNat).isEmpty) rfl
    · simp! [nL, rg, e1]
      rfl
    · intro hc
      have hc := hun.mp hc
      have hln : bfn .len [.lst ((chs n j).map fun k => .int ((k : Nat) : Int))] = .ok (.int (((chs n j).length : Nat) : Int)) := by
        show Res.ok (D.int ((((chs n j).map _).length : Nat) : Int)) = _
        rw [List.length_map]
      cases least with
      | none =>
        apply xAsg; apply wpE rfl
        · simp! [oN, nL, hln]
          rfl
        (try simp only [setZ, setC])
        apply xNil
        show wp _ _
        apply xNil
        refine ⟨some (chs n j).length, _, _, fun c h => ?_, (fun h => nomatch h), rfl⟩
        cases h
        refine ⟨⟨j, by omega, hc, rfl⟩, fun m hm hcm => ?_⟩
        by_cases c : m < j
        · exact absurd hcm (i2 rfl m c)
        · have : m = j := by omega
          rw [this]
          exact Nat.le_refl _
      | some c =>
        obtain ⟨⟨m0, hm0, hcm0, hlm0⟩, hall⟩ := i1 c rfl
        apply xAsg; apply wpE rfl
        · simp! [oN, nL, hln]
          rfl
        (try simp only [setZ, setC])
        apply xNil
        show wp _ _
        apply xNil
        refine ⟨some (min c (chs n j).length), _, _, fun c' h => ?_, (fun h => nomatch h), by rw [show min ((c : Nat) : Int) (((chs n j).length : Nat) : Int) = ((min c (chs n j).length : Nat) : Int) by omega]; rfl⟩
        cases h
        refine ⟨?_, fun m hm hcm => ?_⟩
        · by_cases c2 : c ≤ (chs n j).length
          · exact ⟨m0, by omega, hcm0, by omega⟩
          · exact ⟨j, by omega, hc, by omega⟩
        · by_cases c2 : m < j
          · have := hall m c2 hcm
            omega
          · have : m = j := by omega
            rw [this]
            omega
    · intro hc
      apply xNil
      show wp _ _
      apply xNil
      have hc : ¬ Covers a b (chs n j) lo hi := fun z => by rw [hun.mpr z] at hc; cases hc
      refine ⟨least, _, _, fun c h => ?_, fun h m hm => ?_, rfl⟩
      · obtain ⟨⟨m0, hm0, hcm0, hlm0⟩, hall⟩ := i1 c h
        refine ⟨⟨m0, by omega, hcm0, hlm0⟩, fun m hm hcm => ?_⟩
        by_cases c2 : m < j
        · exact hall m c2 hcm
        · have : m = j := by omega
          rw [this] at hcm
          exact absurd hcm hc
      · by_cases c2 : m < j
        · exact i2 h m c2
        · have : m = j := by omega
          rw [this]
          exact hc
  · rintro _ ⟨least, x17, x18, i1, i2, rfl⟩
    rw [List.length_range] at *
    have hle := least_is ho i1 i2
    subst hle
    cases out with
    | none =>
      apply xSkip rfl
      · simp! [oL, oN, e_bl, Option.map]
      exact nxt _ _ _ _ _
    | some L =>
      have hg := ho1 L rfl
      have hLn : ∀ j ∈ L, j < n := fun j hj => (hg.ends j hj).2
      obtain ⟨o, hm, hmt⟩ := missed_ok (n := n) (a := a) (b := b) 4 hLn (lo := lo) (hi := hi) (by omega) (by omega) (by omega) (by omega)
      have := missed_none hm hg.covers
      subst this
      have hln : bfn .len [nL L] = .ok (.int ((L.length : Nat) : Int)) := by
        show Res.ok (D.int (((L.map _).length : Nat) : Int)) = _
        rw [List.length_map]
      have hnl : isNon (nL L) = false := rfl
      apply xSkip rfl
      · simp! [oL, oN, oI, e_bl, e_int, hln, hnl, hmt, Option.map]
      exact nxt _ _ _ _ _
end
end K70

/-! stretches: the law's first half -/
namespace K70
open PySem Vi SC
variable {ns : List Int}
def aL (l : List P) (k : Nat) : Int := (l.getD k (0, 0)).1
def bL (l : List P) (k : Nat) : Int := (l.getD k (0, 0)).2
theorem psD_sp (l : List P) : psD l = spD l.length (aL l) (bL l) := congrArg D.lst (map_rng (0, 0) pD l)
structure Spans (l : List P) : Prop where
  len : l.length ≤ 6
  ok : ∀ p ∈ l, -2 ≤ p.1 ∧ p.1 < p.2 ∧ p.2 ≤ 12
def hit (t : Int) (p : P) : Bool := decide (p.1 ≤ t) && decide (t < p.2)
def anyH (l : List P) (t : Int) : Bool := !(l.filter (hit t)).isEmpty
theorem anyH_iff {l : List P} {t : Int} : anyH l t = true ↔ inL l t := by
  unfold anyH inL inP
  rw [Bool.not_eq_true', ← Bool.not_eq_true, List.isEmpty_iff, List.filter_eq_nil_iff]
  unfold hit
  constructor
  · intro h
    apply Classical.byContradiction
    intro z
    refine h fun p hp hh => z ⟨p, hp, ?_⟩
    rw [Bool.and_eq_true, decide_eq_true_eq, decide_eq_true_eq] at hh
    exact hh
  · rintro ⟨p, hp, h1, h2⟩ h
    exact h p hp (by rw [decide_eq_true h1, decide_eq_true h2]; rfl)
theorem e_psNil {l : List P} : eqD (.lst (l.map pD)) (.lst []) = .ok l.isEmpty := by
  refine (((EqOk.int.pair EqOk.int).lst).eq (by decide) l []).trans ?_
  cases l <;> rfl
theorem gd_ps {l : List P} (h : l.length ≤ line) : gd 3 (psD l) = true := by
  unfold psD
  simp only [gd, Bool.and_eq_true, decide_eq_true_eq]
  exact ⟨gd_map fun p _ => rfl, by rw [List.length_map]; exact h⟩
local macro_rules | `(tactic| simp! [$ls,*]) => `(tactic| simp +contextual (disch := first | assumption | omega | (simp only [List.length_map, List.length_range, List.length_cons, List.length_nil, List.length_append, List.length_replicate]; first | assumption | omega)) only [bOk, varD_fz, bvarD_ow, bvarD_od, gS0, gSs, p_var, p_bvar, p_int, p_str, p_non, p_bl, p_nop, p_dnew, p_gc, p_tup, p_lst, p_bin, p_neg, p_not, p_cmp, p_chain, p_and, p_or, p_ite, p_call, p_blt, p_isi, p_sub, p_dsub, p_fld, p_isc, p_make, p_meth, p_om2, p_prim, p_lcm, fld_0, fld_1, fld_2, fld_3, isc_ok, obj_ok, p_mdef, p_kmax, p_asked, p_lk, odD_od, mask0, mask_c, ms_fz, ms_ow, ms_od, ms_no, p_trev, t_rev, p_sset, p_slice, p_lc, p_lc2, p_nil, p_cons, bind_v, bind_t2, bind_t3, bind_t4, wipe0, wipeC, setZ, setC, asInt_i, asBl_b, ofO_s, allT_0, allT_1, if_t, if_f, if_and, if_or, bind_if, c_lt, c_gt, c_le, c_ge, c_eq, c_ne, c_is, c_isnot, c_isB, c_isnotB, c_inT, c_inL, c_ninT, c_ninL, n_int, n_bl, n_str, n_tup, n_lst, n_non, b_add, b_sub, b_mul, b_mod, b_fdiv, b_lst, b_tup, b_rep, b_repT, f_lenL, f_lenT, f_abs, f_int, f_intB, f_bool, f_listL, f_listT, f_listD, f_tupL, f_tupT, f_all, f_any, f_sum, f_sumT, f_max2, f_min2, i_int, i_intB, i_intN, i_intS, i_intT, i_intL, i_boolI, i_bool, i_boolN, i_boolS, i_boolT, i_boolL, i_strI, i_strB, i_strN, i_str, i_strT, i_strL, i_tupI, i_tupB, i_tupN, i_tupS, i_tup, i_tupL, i_lstI, i_lstB, i_lstN, i_lstS, i_lstT, i_lst, st_rng, sl_rng, s_lst, s_tup, s_keys, s_rng, lcM_of, lcM_rng, lcR_some, lcR_filter, lcM_some, lcM_filter, lcCM_of, lcCM_rng, lcCM_ok, lcCR_ok, lcP_nil, lcP_cons, m_some, m_none, e_int, e_bl, e_ones, e_pow, sb_small, e_nil0, sset_rng, sl_ints, sl_last, kO, e_intsNil, e_intsNilT, b_rep4, om2_mat, st_rngI, sl_rngI, tn_nat, tn_0, tn_1, tn_2, tn_s, tn_p, slT_from, slL_from, slT_to, slL_to, oN, oS, np_n, np_i, np_v, np_b, np_f, np_s, np_c, np_g, ask_ok, akD_p, akD_u, ofC_n, ofC_s, ms_om, List.length_map, List.length_range, List.map_cons, List.map_nil, List.length_cons, List.length_nil, List.length_append, Nat.zero_add, List.nil_append, List.cons_append, Bool.not_true, Bool.not_false, Bool.and_true, Bool.true_and, Bool.and_false, Bool.false_and, Bool.or_true, Bool.true_or, Bool.or_false, Bool.false_or, Bool.not_not, sub_t0, sub_t1, sub_t2, sub_t3, sub_l0, sub_l1, sub_l2, sub_l3, decide_true, decide_false, if_true, if_false, ite_self, $ls,*])
theorem t12 (hn : ns.length ≤ 63) {l : List P} (hS : Spans l) {lo hi : Int} (hl1 : -1 ≤ lo) (hl2 : lo ≤ 4) (hh1 : lo ≤ hi) (hh2 : hi ≤ 12) {st : List D} (hs : StOk ns st) (x0 x3 x7 x8 x9 x10 x11 x12 x13 x14 x15 x16 x17 x18 x19 x20 x21 : Slot) :
    wp (exB (tab gls fns 5) gls (tailB 12 f_law.body) [x0, .ow st, .fz (psD l), x3, .fz (.int lo), .fz (.int ((l.length : Nat) : Int)), .fz (.int hi), x7, x8, x9, x10, x11, x12, x13, x14, x15, x16, x17, x18, x19, x20, x21]) QT := by
  have h6 := hS.len
  have nxt := fun x1 x9 x12 x13 x14 => t17 (n := l.length) (a := aL l) (b := bL l) (lo := lo) (hi := hi) (by omega) (by omega) (by omega) hh1 (by omega) x0 x1 x3 x7 x8 x9 x10 x11 x12 x13 x14 x15 x16 x17 x18 x19 x20 x21
  have hsp : ∀ j, j < l.length → subD (psD l) (.int ((j : Nat) : Int)) = .ok (.tup [.int (aL l j), .int (bL l j)]) := fun j hj => by rw [psD_sp]; exact sp_at hj
  rw [← psD_sp] at nxt
  unfold f_law at nxt ⊢
  dsimp only [tailB] at nxt ⊢
  have lN : l.length ≤ line := by unfold line; omega
  apply xAsgO
  apply wpLc (fun i : Nat => D.int ((i : Nat) : Int)) (List.range l.length) (fun done ys en => ∃ (S : List Nat) (st : List D), ys = S.map (fun k => .int ((k : Nat) : Int)) ∧ S.length ≤ done.length ∧ StOk ns st ∧ (∀ v ∈ S, v < l.length) ∧ en = [x0, .ow st, .fz (psD l), x3, .fz (.int lo), .fz (.int ((l.length : Nat) : Int)), .fz (.int hi), x7, x8, x9, x10, x11, x12, .no, x14, x15, x16, x17, x18, x19, x20, x21]) rfl
  · simp! []
    rfl
  · exact s_rng lN
  · exact ⟨[], st, rfl, Nat.le_refl _, hs, (fun _ h => nomatch h), rfl⟩
  · rintro d1 i d2 _ _ e ⟨S, st, rfl, hll, hs, hl0, rfl⟩
    obtain ⟨hi, rfl⟩ := rng_split e
    refine ⟨_, bind_v, ?_⟩
    (try simp only [setZ, setC])
    apply wpsCons
    apply wpCmp
    apply wpNext rfl hn rfl hs rfl
    · simp! []
      rfl
    · omega
    · omega
    intro v st hv hs
    (try simp only [setZ, setC])
    apply wpE rfl
    · simp! []
      rfl
    refine ⟨_, e_int, wpsNil ⟨_, allT_1, fun _ => ?_, fun _ => ?_⟩⟩
    · apply wpE rfl
      · simp! []
        rfl
      refine ⟨S ++ [i], st, by rw [List.map_append]; rfl, by simp at hll ⊢; omega, hs, fun u hu => ?_, rfl⟩
      rcases List.mem_append.mp hu with hu | hu
      · exact hl0 u hu
      · rw [List.mem_singleton.mp hu]; exact hi
    · exact ⟨S, st, rfl, by simp at hll ⊢; omega, hs, hl0, rfl⟩
  rintro _ _ ⟨S, st, rfl, hll, hs, hl0, rfl⟩
  rw [List.length_range] at hll
  refine ⟨_, rfl, ?_⟩
  show wp (exB _ _ _ [x0, .ow st, .fz (psD l), x3, .fz (.int lo), .fz (.int ((l.length : Nat) : Int)), .fz (.int hi), x7, x8, x9, x10, x11, .ow (S.map fun k => .int ((k : Nat) : Int)), x13, x14, x15, x16, x17, x18, x19, x20, x21]) _
  apply xFz rfl
  (try simp only [setZ, setC])
  have rg := rng2_t (lo := lo) (hi := hi) (by omega) (by omega) (by omega) (by omega)
  have e1 : ∀ i ∈ S, subD (psD l) (.int ((i : Nat) : Int)) = .ok (.tup [.int (aL l i), .int (bL l i)]) := fun i hi => hsp i (hl0 i hi)
  apply xAsgO; apply wpE (d := .lst ((uncov (aL l) (bL l) S lo (hi - lo).toNat).map fun q => .int (lo + ((q : Nat) : Int)))) rfl
  · simp! [rg, e1]
    rfl
  refine ⟨_, rfl, ?_⟩
  (try simp only [setZ, setC])
  apply xFz rfl
  (try simp only [setZ, setC])
  obtain ⟨o, hm, hmt⟩ := missed_ok (n := l.length) (a := aL l) (b := bL l) 4 hl0 (lo := lo) (hi := hi) (by omega) (by omega) (by omega) (by omega)
  rw [← psD_sp] at hmt
  have hmt : tab gls fns 5 1 [.fz (psD l), .fz (.lst (S.map fun k => .int ((k : Nat) : Int))), .fz (.int lo), .fz (.int hi)] = .ok (oI o, []) := hmt
  have e2 : eqD (.lst ((uncov (aL l) (bL l) S lo (hi - lo).toNat).map fun q => .int (lo + ((q : Nat) : Int)))) (.lst []) = .ok (uncov (aL l) (bL l) S lo (hi - lo).toNat).isEmpty := e_intsNil
  have hun := uncov_nil (a := aL l) (b := bL l) (S := S) (lo := lo) (hi := hi)
  have hmu := fun q => mem_uncov (a := aL l) (b := bL l) (S := S) (lo := lo) (m := (hi - lo).toNat) (q := q)
  have hpw : (uncov (aL l) (bL l) S lo (hi - lo).toNat).Pairwise (· < ·) := List.Pairwise.filter _ List.pairwise_lt_range
  have gl : o = ((uncov (aL l) (bL l) S lo (hi - lo).toNat).head?).map fun q => lo + ((q : Nat) : Int) := by
    cases hu : uncov (aL l) (bL l) S lo (hi - lo).toNat with
    | nil => exact missed_none hm (hun.mp (by rw [hu]; rfl))
    | cons q r =>
      obtain ⟨q1, q2⟩ := (hmu q).mp (by rw [hu]; exact List.mem_cons_self)
      show o = some (lo + ((q : Nat) : Int))
      cases o with
      | none =>
        obtain ⟨k, hk, hc⟩ := hm.2 rfl (lo + ((q : Nat) : Int)) (by omega) (by omega)
        exact absurd hc (q2 k hk)
      | some t =>
        obtain ⟨m1, m2, m3, m4⟩ := hm.1 t rfl
        have h5 : t ≤ lo + ((q : Nat) : Int) := by
          apply Classical.byContradiction
          intro z
          obtain ⟨k, hk, hc⟩ := m4 (lo + ((q : Nat) : Int)) (by omega) (by omega)
          exact q2 k hk hc
        have h6 : (t - lo).toNat ∈ uncov (aL l) (bL l) S lo (hi - lo).toNat := (hmu _).mpr ⟨by omega, fun k hk hc => by
          rw [show lo + (((t - lo).toNat : Nat) : Int) = t by omega] at hc
          exact m3 k hk hc⟩
        rw [hu] at h6 hpw
        have h7 : q ≤ (t - lo).toNat := by
          rcases List.mem_cons.mp h6 with h6 | h6
          · omega
          · exact Nat.le_of_lt ((List.pairwise_cons.mp hpw).1 _ h6)
        congr 1
        omega
  generalize uncov (aL l) (bL l) S lo (hi - lo).toNat = U at *
  subst gl
  cases U with
  | nil =>
    have s1 := same 4 2 .non rfl (by omega) (by omega)
    apply xSkip rfl
    · simp! [hmt, e2, List.isEmpty, List.head?, Option.map, oI, s1]
    exact nxt _ _ _ _ _
  | cons q r =>
    have s1 := same 4 2 (.int (lo + ((q : Nat) : Int))) rfl (by omega) (by omega)
    rw [List.map_cons] at *
    apply xSkip rfl
    · simp! [hmt, e2, List.isEmpty, List.head?, Option.map, oI, s1]
    exact nxt _ _ _ _ _
theorem t7 (hn : ns.length ≤ 63) {l : List P} (hS : Spans l) {lo hi : Int} (hl1 : -1 ≤ lo) (hl2 : lo ≤ 4) (hh1 : lo ≤ hi) (hh2 : hi ≤ 12) {st : List D} (hs : StOk ns st) (x0 x3 x7 x8 x9 x10 x11 x12 x13 x14 x15 x16 x17 x18 x19 x20 x21 : Slot) :
    wp (exB (tab gls fns 5) gls (tailB 7 f_law.body) [x0, .ow st, .fz (psD l), x3, .fz (.int lo), .fz (.int ((l.length : Nat) : Int)), .fz (.int hi), x7, x8, x9, x10, x11, x12, x13, x14, x15, x16, x17, x18, x19, x20, x21]) QT := by
  have h6 := hS.len
  have nxt := fun x7 x8 x9 x10 x11 => t12 hn hS hl1 hl2 hh1 hh2 hs x0 x3 x7 x8 x9 x10 x11 x12 x13 x14 x15 x16 x17 x18 x19 x20 x21
  unfold f_law at nxt ⊢
  dsimp only [tailB] at nxt ⊢
  have rg1 : srcI .rng2 [.int (-3), .int 16] = .ok ((List.range 19).map fun t : Nat => .int (-3 + ((t : Nat) : Int))) := rng2_t (by omega) (by omega) (by omega) (by omega)
  have rg2 := rng2_t (lo := lo) (hi := hi) (by omega) (by omega) (by omega) (by omega)
  apply xAsgO; apply wpE (d := bitD 19 fun k => anyH l (-3 + ((k : Nat) : Int))) rfl
  · simp! [psD, rg1, e_psNil, lcM_of, lcM_filter]
    rfl
  refine ⟨_, rfl, ?_⟩
  (try simp only [setZ, setC])
  apply xFz rfl
  (try simp only [setZ, setC])
  apply xAsgO; apply wpE (d := bitD (hi - lo).toNat fun k => anyH l (lo + ((k : Nat) : Int))) rfl
  · simp! [psD, rg2, e_psNil, lcM_of, lcM_filter]
    rfl
  refine ⟨_, rfl, ?_⟩
  (try simp only [setZ, setC])
  apply xFz rfl
  (try simp only [setZ, setC])
  have hne : ∀ p ∈ l, p.1 < p.2 := fun p hp => (hS.ok p hp).2.1
  obtain ⟨M, hM, hcM, hlM, hmM⟩ := merged_ok 4 hne (by omega)
  obtain ⟨Gp, hG, hcG, hlG, hmG⟩ := gaps_ok 3 hne (by omega) lo hi
  obtain ⟨F1, hF1, hcF1, hmF1⟩ := pieces_ok 4 (n := 19) (by omega) (fun k => anyH l (-3 + ((k : Nat) : Int))) (-3)
  obtain ⟨F2, hF2, hcF2, hmF2⟩ := pieces_ok 4 (n := (hi - lo).toNat) (by omega) (fun k => !anyH l (lo + ((k : Nat) : Int))) lo
  have e1 : F1 = M := sep_unique hF1 hM fun t => by
    rw [hcF1, hcM]
    constructor
    · rintro ⟨h1, h2, h3⟩
      rw [show -3 + ((((t - -3).toNat : Nat)) : Int) = t by omega, anyH_iff] at h3
      exact h3
    · intro h
      obtain ⟨p, hp, q1, q2⟩ := h
      have := hS.ok p hp
      refine ⟨by omega, by omega, ?_⟩
      rw [show -3 + ((((t - -3).toNat : Nat)) : Int) = t by omega, anyH_iff]
      exact ⟨p, hp, q1, q2⟩
  have e2 : F2 = Gp := sep_unique hF2 hG fun t => by
    rw [hcF2, hcG]
    constructor
    · rintro ⟨h1, h2, h3⟩
      rw [show lo + ((((t - lo).toNat : Nat)) : Int) = t by omega] at h3
      refine ⟨h1, by omega, fun z => ?_⟩
      rw [anyH_iff.mpr z] at h3
      cases h3
    · rintro ⟨h1, h2, h3⟩
      refine ⟨h1, by omega, ?_⟩
      rw [show lo + ((((t - lo).toNat : Nat)) : Int) = t by omega]
      cases h : anyH l t with
      | false => rfl
      | true => exact absurd (anyH_iff.mp h) h3
  subst e1 e2
  have e3 : D.lst ((List.range (hi - lo).toNat).map fun k => .int (1 - if anyH l (lo + ((k : Nat) : Int)) = true then 1 else 0)) = bitD (hi - lo).toNat fun k => !anyH l (lo + ((k : Nat) : Int)) := by
    unfold bitD
    refine congrArg D.lst (List.map_congr_left fun k _ => ?_)
    show D.int _ = D.int (if (!anyH l (lo + ((k : Nat) : Int))) = true then 1 else 0)
    cases anyH l (lo + ((k : Nat) : Int)) <;> rfl
  rw [← e3] at hmF2
  unfold bitD at hmF1
  have s1 := same 4 4 (.lst [psD F1, psD F2]) (by
    have g1 := gd_ps (l := F1) (by unfold line; omega)
    have g2 := gd_ps (l := F2) (by unfold line; omega)
    generalize psD F1 = y1 at g1
    generalize psD F2 = y2 at g2
    show (List.all [y1, y2] (gd 3) && decide (2 ≤ line)) = true
    simp only [List.all_cons, List.all_nil, g1, g2]
    rfl) (by omega) (by omega)
  apply xSkip rfl
  · simp! [hmM, hmG, hmF1, hmF2, s1]
  exact nxt _ _ _ _ _
theorem law_ok (ns : List Int) (hn : ns.length ≤ 63) : tab gls fns 6 7 [.fz (.lst (ns.map .int))] = .ok (.bl true, []) := by
  refine fn_eq (fn := f_law) rfl rfl rfl rfl ?_
  show wp (exB _ _ f_law.body [.fz (.lst (ns.map .int)), .no, .no, .no, .no, .no, .no, .no, .no, .no, .no, .no, .no, .no, .no, .no, .no, .no, .no, .no, .no, .no]) _
  unfold f_law
  dsimp only
  apply xAsgO; apply wpE rfl
  · simp! []
    rfl
  refine ⟨_, rfl, ?_⟩
  (try simp only [setZ, setC])
  have hs := st0_ok ns (s := 70) ⟨by decide, by decide⟩
  generalize [D.lst (ns.map .int), .int 0, .int 0, .int 70] = st at hs
  apply xAsgO; apply wpE rfl
  · simp! []
    rfl
  refine ⟨_, rfl, ?_⟩
  (try simp only [setZ, setC])
  apply xForI (fun i : Nat => D.int ((i : Nat) : Int))
  apply wpsCons
  apply wpNext rfl hn rfl hs rfl
  · simp! []
    rfl
  · omega
  · omega
  intro v st hv hs
  (try simp only [setZ, setC])
  apply wpsNil
  refine ⟨List.range v, fun d1 en => ∃ (l : List P) (st : List D) (x3 x4 : Slot), l.length = d1.length ∧ StOk ns st ∧ (∀ p ∈ l, -2 ≤ p.1 ∧ p.1 < p.2 ∧ p.2 ≤ 12) ∧ en = [.fz (.lst (ns.map .int)), .ow st, .ow (l.map pD), x3, x4, .no, .no, .no, .no, .no, .no, .no, .no, .no, .no, .no, .no, .no, .no, .no, .no, .no], s_rng (by unfold line; omega), ⟨[], st, _, _, rfl, hs, (fun _ h => nomatch h), rfl⟩, ?_, ?_⟩
  · rintro d1 j d2 _ e ⟨l, st, x3, x4, hll, hs, hl, rfl⟩
    obtain ⟨hj, rfl⟩ := rng_split e
    rw [List.length_range] at hll
    refine wp_ok ?_
    (try simp only [setZ, setC])
    apply xAsg; apply wpBin
    apply wpNext rfl hn rfl hs rfl
    · simp! []
      rfl
    · omega
    · omega
    intro a st ha hs
    (try simp only [setZ, setC])
    apply wpE rfl
    · simp! []
      rfl
    refine ⟨_, b_sub, ?_⟩
    (try simp only [setZ, setC])
    apply xApp rfl
    apply wpTup
    apply wpsCons
    apply wpE rfl
    · simp! []
      rfl
    apply wpsCons
    apply wpBin
    apply wpE rfl
    · simp! []
      rfl
    apply wpNext rfl hn rfl hs rfl
    · simp! []
      rfl
    · omega
    · omega
    intro c st hc hs
    (try simp only [setZ, setC])
    refine ⟨_, b_add, wpsNil ⟨_, rfl, by rw [List.length_map]; unfold line; omega, ?_⟩⟩
    (try simp only [setZ, setC])
    apply xNil
    refine ⟨l ++ [(((a : Nat) : Int) - 2, ((a : Nat) : Int) - 2 + 1 + ((c : Nat) : Int))], st, _, _, by simp [hll], hs, fun p hp => ?_, by rw [List.map_append]; rfl⟩
    rcases List.mem_append.mp hp with hp | hp
    · exact hl p hp
    · rw [List.mem_singleton.mp hp]
      dsimp only
      omega
  · rintro _ ⟨l, st, x3, x4, hll, hs, hl, rfl⟩
    rw [List.length_range] at hll
    have hS : Spans l := ⟨by omega, hl⟩
    apply xAsg; apply wpE rfl
    · simp! []
      rfl
    (try simp only [setZ, setC])
    apply xAsg; apply wpBin
    apply wpNext rfl hn rfl hs rfl
    · simp! []
      rfl
    · omega
    · omega
    intro w st hw hs
    (try simp only [setZ, setC])
    apply wpE rfl
    · simp! []
      rfl
    refine ⟨_, b_sub, ?_⟩
    (try simp only [setZ, setC])
    apply xAsg; apply wpBin
    apply wpE rfl
    · simp! []
      rfl
    apply wpNext rfl hn rfl hs rfl
    · simp! []
      rfl
    · omega
    · omega
    intro h st hh hs
    (try simp only [setZ, setC])
    refine ⟨_, b_add, ?_⟩
    (try simp only [setZ, setC])
    apply xFz rfl
    (try simp only [setZ, setC])
    exact t7 hn hS (by omega) (by omega) (by omega) (by omega) hs _ _ _ _ _ _ _ _ _ _ _ _ _ _ _ _ _
end K70

namespace K70
open PySem PySem.Spec PyProof.Rows
open L2 Vi
theorem law_true : ∀ ns : List Int, ns.length ≤ 63 → tab gls fns 6 7 [.fz (.lst (ns.map .int))] = .ok (.bl true, []) := fun ns h => law_ok ns h
theorem all_mk {w : World} {K : PySem.W.Frag} {h : Heap} {mg : Str → Option Value} {fa : Addr} (X : K.In h) (N : h.Ns mainGlobals mg) (hfa : mg "law" = some (.ref fa))
    {f0 : Addr} {od0 an0 : Option Addr} {sl0 : Array (Option Value)} {oc0 kV0 dc0 pm0 cd0 ct0 : Value}
    (a0 : PySem.W.nsIn K mainGlobals "fewest_to_cover" = some (some (.ref f0)))
    (l0 : K.lookup f0 = some ⟨oc0, od0, .func (PySem.W.fnOf "fewest_to_cover" "fewest_to_cover" (defArgs s_fewest_to_cover) (defBody s_fewest_to_cover) (defScope s_fewest_to_cover) .none kV0 dc0 pm0 an0 cd0 ct0), sl0⟩)
    (c0 : PySem.W.codeIn K cd0 "fewest_to_cover" = true) (k0 : PySem.W.keepIn K (.ref f0) = true)
    {f1 : Addr} {od1 an1 : Option Addr} {sl1 : Array (Option Value)} {oc1 kV1 dc1 pm1 cd1 ct1 : Value}
    (a1 : PySem.W.nsIn K mainGlobals "missed_time" = some (some (.ref f1)))
    (l1 : K.lookup f1 = some ⟨oc1, od1, .func (PySem.W.fnOf "missed_time" "missed_time" (defArgs s_missed_time) (defBody s_missed_time) (defScope s_missed_time) .none kV1 dc1 pm1 an1 cd1 ct1), sl1⟩)
    (c1 : PySem.W.codeIn K cd1 "missed_time" = true) (k1 : PySem.W.keepIn K (.ref f1) = true)
    {f2 : Addr} {od2 an2 : Option Addr} {sl2 : Array (Option Value)} {oc2 kV2 dc2 pm2 cd2 ct2 : Value}
    (a2 : PySem.W.nsIn K mainGlobals "merged_spans" = some (some (.ref f2)))
    (l2 : K.lookup f2 = some ⟨oc2, od2, .func (PySem.W.fnOf "merged_spans" "merged_spans" (defArgs s_merged_spans) (defBody s_merged_spans) (defScope s_merged_spans) .none kV2 dc2 pm2 an2 cd2 ct2), sl2⟩)
    (c2 : PySem.W.codeIn K cd2 "merged_spans" = true) (k2 : PySem.W.keepIn K (.ref f2) = true)
    {f3 : Addr} {od3 an3 : Option Addr} {sl3 : Array (Option Value)} {oc3 kV3 dc3 pm3 cd3 ct3 : Value}
    (a3 : PySem.W.nsIn K mainGlobals "gaps_between" = some (some (.ref f3)))
    (l3 : K.lookup f3 = some ⟨oc3, od3, .func (PySem.W.fnOf "gaps_between" "gaps_between" (defArgs s_gaps_between) (defBody s_gaps_between) (defScope s_gaps_between) .none kV3 dc3 pm3 an3 cd3 ct3), sl3⟩)
    (c3 : PySem.W.codeIn K cd3 "gaps_between" = true) (k3 : PySem.W.keepIn K (.ref f3) = true)
    {f4 : Addr} {od4 an4 : Option Addr} {sl4 : Array (Option Value)} {oc4 kV4 dc4 pm4 cd4 ct4 : Value}
    (a4 : PySem.W.nsIn K mainGlobals "_law_next" = some (some (.ref f4)))
    (l4 : K.lookup f4 = some ⟨oc4, od4, .func (PySem.W.fnOf "_law_next" "_law_next" (defArgs s__law_next) (defBody s__law_next) (defScope s__law_next) .none kV4 dc4 pm4 an4 cd4 ct4), sl4⟩)
    (c4 : PySem.W.codeIn K cd4 "_law_next" = true) (k4 : PySem.W.keepIn K (.ref f4) = true)
    {f5 : Addr} {od5 an5 : Option Addr} {sl5 : Array (Option Value)} {oc5 kV5 dc5 pm5 cd5 ct5 : Value}
    (a5 : PySem.W.nsIn K mainGlobals "_law_same" = some (some (.ref f5)))
    (l5 : K.lookup f5 = some ⟨oc5, od5, .func (PySem.W.fnOf "_law_same" "_law_same" (defArgs s__law_same) (defBody s__law_same) (defScope s__law_same) .none kV5 dc5 pm5 an5 cd5 ct5), sl5⟩)
    (c5 : PySem.W.codeIn K cd5 "_law_same" = true) (k5 : PySem.W.keepIn K (.ref f5) = true)
    {f6 : Addr} {od6 an6 : Option Addr} {sl6 : Array (Option Value)} {oc6 kV6 dc6 pm6 cd6 ct6 : Value}
    (a6 : PySem.W.nsIn K mainGlobals "_law_pieces" = some (some (.ref f6)))
    (l6 : K.lookup f6 = some ⟨oc6, od6, .func (PySem.W.fnOf "_law_pieces" "_law_pieces" (defArgs s__law_pieces) (defBody s__law_pieces) (defScope s__law_pieces) .none kV6 dc6 pm6 an6 cd6 ct6), sl6⟩)
    (c6 : PySem.W.codeIn K cd6 "_law_pieces" = true) (k6 : PySem.W.keepIn K (.ref f6) = true)
    {f7 : Addr} {od7 an7 : Option Addr} {sl7 : Array (Option Value)} {oc7 kV7 dc7 pm7 cd7 ct7 : Value}
    (a7 : PySem.W.nsIn K mainGlobals "law" = some (some (.ref f7)))
    (l7 : K.lookup f7 = some ⟨oc7, od7, .func (PySem.W.fnOf "law" "law" (defArgs s_law) (defBody s_law) (defScope s_law) .none kV7 dc7 pm7 an7 cd7 ct7), sl7⟩)
    (c7 : PySem.W.codeIn K cd7 "law" = true) (k7 : PySem.W.keepIn K (.ref f7) = true)
    {T0 : Addr}
    {tc0 : Addr} {te0 : Value} {to0 : Option Addr} {tv0 : Array Value} {ts0 : Array (Option Value)} (tq0 : cd0 = .ref tc0) (tl0 : K.lookup tc0 = some ⟨te0, to0, .fields tv0, ts0⟩) (tp0 : tv0[11]? = some (.ref T0)) (tn0 : K.lookup T0 = none)
    (z0 : PySem.W.nsIn K mainGlobals "abs" = some none)
    (z1 : PySem.W.nsIn K mainGlobals "any" = some none)
    (z2 : PySem.W.nsIn K mainGlobals "bool" = some none)
    (z3 : PySem.W.nsIn K mainGlobals "int" = some none)
    (z4 : PySem.W.nsIn K mainGlobals "isinstance" = some none)
    (z5 : PySem.W.nsIn K mainGlobals "len" = some none)
    (z6 : PySem.W.nsIn K mainGlobals "list" = some none)
    (z7 : PySem.W.nsIn K mainGlobals "max" = some none)
    (z8 : PySem.W.nsIn K mainGlobals "min" = some none)
    (z9 : PySem.W.nsIn K mainGlobals "range" = some none)
    (z10 : PySem.W.nsIn K mainGlobals "sorted" = some none)
    (z11 : PySem.W.nsIn K mainGlobals "str" = some none)
    (z12 : PySem.W.nsIn K mainGlobals "tuple" = some none)
    : ∃ (W : Wx) (fd : FuncData), (∀ y ∈ lm, ∃ c P, PySem.W.tabIn K y = some (c, P) ∧ K.lookup P = none) ∧ (∀ p ∈ W.tabs, ∃ y ∈ lm, ∃ c, PySem.W.tabIn K y = some (c, p.1)) ∧ (∀ (s : Shared) (u : Value), BindsTo s fd ⟨[u], []⟩ [("script", u)]) ∧ ∀ base : Heap, (∀ y ∈ lm, ∀ c P, PySem.W.tabIn K y = some (c, P) → LamX.TabB base mg c P) → FnOk PySem.Challenge.rw_loosetimes_k70_whole_stretches_covered.prog w K mg base (CX PySem.Challenge.rw_loosetimes_k70_whole_stretches_covered.prog w) (4 * 6 + 2) fa fd ["script"] (@spF W K (tab gls fns 6) 7 1 .dat) := by
  letI : Wx := (wx T0)
  have M : Md K mg gls nbs gcs css defs := by
    refine ⟨?_, ?_, ?_, ?_⟩
    · exact (all_cons (PySem.W.mg_none_of X N z0) (all_cons (PySem.W.mg_none_of X N z1) (all_cons (PySem.W.mg_none_of X N z2) (all_cons (PySem.W.mg_none_of X N z3) (all_cons (PySem.W.mg_none_of X N z4) (all_cons (PySem.W.mg_none_of X N z5) (all_cons (PySem.W.mg_none_of X N z6) (all_cons (PySem.W.mg_none_of X N z7) (all_cons (PySem.W.mg_none_of X N z8) (all_cons (PySem.W.mg_none_of X N z9) (all_cons (PySem.W.mg_none_of X N z10) (all_cons (PySem.W.mg_none_of X N z11) (all_cons (PySem.W.mg_none_of X N z12) all_nil)))))))))))))
    · intro g x hx; exact absurd hx (by simp [gcs])
    · exact (all_cons (df_at (def_at X N b_fewest_to_cover a0 l0 c0 k0)) (all_cons (df_at (def_at X N b_missed_time a1 l1 c1 k1)) (all_cons (df_at (def_at X N b_merged_spans a2 l2 c2 k2)) (all_cons (df_at (def_at X N b_gaps_between a3 l3 c3 k3)) (all_cons (df_at (def_at X N b__law_next a4 l4 c4 k4)) (all_cons (df_at (def_at X N b__law_same a5 l5 c5 k5)) (all_cons (df_at (def_at X N b__law_pieces a6 l6 c6 k6)) (all_cons (df_at (def_at X N b_law a7 l7 c7 k7)) all_nil))))))))
    · intro c cn fi ns hx; exact absurd hx (by simp [css])
  have hX : ∀ base : Heap, ∀ (c : Nat) (cn : Str), xs[c]? = some cn → XcOk PySem.Challenge.rw_loosetimes_k70_whole_stretches_covered.prog w K mg base 2 c cn := by
    intro base c cn hx
    match c, hx with
    | n + 0, hx => exact absurd hx (by simp [xs])
  have hE0 : ∀ p ∈ em, EmOk K mg p.1 p.2 := all_nil
  have hE : ∀ x l, (x, l) ∈ em → EmOk K mg x l := fun x l hm => hE0 (x, l) hm
  have hF : em = [] ∨ XfOk K := .inl rfl
  obtain ⟨f, fd, e1, F, _, hb⟩ := def_at X N b_law a7 l7 c7 k7
  cases hfa.symm.trans e1
  have ti0 : PySem.W.tabIn K "fewest_to_cover" = some (tc0, T0) := tab_mk a0 l0 tq0 tl0 tp0
  have hlm : ∀ y ∈ lm, ∃ c P, PySem.W.tabIn K y = some (c, P) ∧ K.lookup P = none := (all_cons ⟨_, _, ti0, tn0⟩ all_nil)
  have htb : ∀ p ∈ ((wx T0) : Wx).tabs, ∃ y ∈ lm, ∃ c, PySem.W.tabIn K y = some (c, p.1) := (all_cons ⟨_, (List.mem_cons_self), _, ti0⟩ all_nil)
  have hA0 : ∀ p ∈ as, ∀ base : Heap, AskOk PySem.Challenge.rw_loosetimes_k70_whole_stretches_covered.prog w K mg base p.1 p.2.1 p.2.2 := all_nil
  have hA : ∀ base : Heap, ∀ x ak hs, (x, ak, hs) ∈ as → AskOk PySem.Challenge.rw_loosetimes_k70_whole_stretches_covered.prog w K mg base x ak hs := fun base x ak hs hm => hA0 (x, ak, hs) hm base
  have hL : ∀ y ∈ lm, ∀ base : Heap, (∀ y ∈ lm, ∀ c P, PySem.W.tabIn K y = some (c, P) → LamX.TabB base mg c P) → LmOk K mg base y := (all_cons (fun base hB => lm_at X N ti0 (hB _ (List.mem_cons_self) _ _ ti0) (List.mem_cons_self) (all_cons (fun _ => rfl) all_nil)) all_nil)
  exact ⟨_, fd, hlm, htb, fun s u => hb s [u] rfl, fun base hB => defs_ok M (hX base) hE hF (hA base) (fun y hy => hL y hy base hB) ck_ok 6 7 d_law fa fd rfl F fun _ => e1⟩
end K70
open PySem PySem.W PyProof.Rows
set_option maxRecDepth 100000 in
set_option maxHeartbeats 0 in
theorem PySem.Challenge.cw_loosetimes_k70_whole_stretches_covered_holds : PySem.Challenge.rw_loosetimes_k70_whole_stretches_covered.Holds := by
  w_on; o_law; k_head; (case hw => w_witness2)
  k_fill
  refine Vi.vi_end (l := PySem.Challenge.rw_loosetimes_k70_whole_stretches_covered) (n := 63) (k := 6) (L := 7) (x := "script") (G := K70.gls) (fns := K70.fns) (lm := K70.lm) rfl (by decide) rfl ⟨rfl, by decide, by decide⟩ (fun w h Y => PySem.W.km_in_of Y) ((List.forall_mem_cons.mpr ⟨rfl, (fun _ h => nomatch h)⟩)) ?F K70.law_true
  case F =>
    intro w mg fa h KX N hmg
    refine' K70.all_mk KX N hmg ?a0 ?l0 ?c0 ?k0 ?a1 ?l1 ?c1 ?k1 ?a2 ?l2 ?c2 ?k2 ?a3 ?l3 ?c3 ?k3 ?a4 ?l4 ?c4 ?k4 ?a5 ?l5 ?c5 ?k5 ?a6 ?l6 ?c6 ?k6 ?a7 ?l7 ?c7 ?k7 ?tq0 ?tl0 ?tp0 ?tn0 ?z0 ?z1 ?z2 ?z3 ?z4 ?z5 ?z6 ?z7 ?z8 ?z9 ?z10 ?z11 ?z12
    case a0 => k_is
    case l0 => k_is
    case a1 => k_is
    case l1 => k_is
    case a2 => k_is
    case l2 => k_is
    case a3 => k_is
    case l3 => k_is
    case a4 => k_is
    case l4 => k_is
    case a5 => k_is
    case l5 => k_is
    case a6 => k_is
    case l6 => k_is
    case a7 => k_is
    case l7 => k_is
    case tq0 => exact rfl
    case tl0 => k_is
    case tp0 => exact rfl
    case c0 => k_is
    case k0 => k_is
    case c1 => k_is
    case k1 => k_is
    case c2 => k_is
    case k2 => k_is
    case c3 => k_is
    case k3 => k_is
    case c4 => k_is
    case k4 => k_is
    case c5 => k_is
    case k5 => k_is
    case c6 => k_is
    case k6 => k_is
    case c7 => k_is
    case k7 => k_is
    case tn0 => first | k_is | ks_is | kernel_rfl
    case z0 => k_is
    case z1 => k_is
    case z2 => k_is
    case z3 => k_is
    case z4 => k_is
    case z5 => k_is
    case z6 => k_is
    case z7 => k_is
    case z8 => k_is
    case z9 => k_is
    case z10 => k_is
    case z11 => k_is
    case z12 => k_is


