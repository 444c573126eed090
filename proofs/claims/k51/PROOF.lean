import PyProof.Rows.All
import Wide.All
import OpenK.AllK
import Wide.FinOn
import PyProof.TableCode
import HandS.ForMost
import HandS.Exc
import HandS.ExcCtx
import HandS.ExcOwn
import HandS.TryOnly
import HandS.Lambda
import HandS.EndTab
import HandS.Wide
import HandS.Deep
import HandS.TupAny
import HandS.TupMul
import HandS.Style
import HandS.IsInst
import HandS.Conv
import HandS.Small
import HandS.FStr
import HandS.Zip
import HandS.HotCalls
import HandS.ExcIs
import HandS.HeadHook4
import HandS.SortInts
import HandS.HeadWalk
import HandS.StrSplit
import HandS.Hot
import HandS.Zip0
import HandS.Text
import HandS.Strs
import HandS.SetFor
import HandS.RaiseMore
import HandS.TryMany
import HandS.Codes
import HandS.Head2
import HandS.NestedK
import PySem.Challenge.RW_storesanew_k51_whole_sends_told_back
set_option Elab.async false
set_option linter.all false
set_option maxRecDepth 100000
set_option maxHeartbeats 2000000
/-! RSem: a small pure semantics of the part of Python that the program and its laws are written in. Values are pure data; a list that a def changes in place is held by the slot that owns it; what several defs share stands in a memory. -/
namespace Rf

/-- a value -/
inductive D where
  | non | bl (b : Bool) | int (i : Int) | str (s : List Nat)
  | tup (xs : List D) | lst (xs : List D)
  | fn (n : Nat)
  | mref (n : Nat)
  | scr (xs : List Int)
  deriving Inhabited

/-- what the memory holds -/
inductive MO where
  | lst (xs : List D)
  deriving Inhabited
abbrev M := List MO

/-- what a slot holds: a value, a list that the slot owns, the same while a loop walks it -/
inductive Sl where
  | val (d : D) | own (xs : List D) | lock (xs : List D)
  deriving Inhabited
abbrev En := List (Option Sl)

/-- an expression's end -/
inductive R (α : Type) where
  | ok (a : α) (m : M)
  | exc (c : Nat) (m : M)
  | bad
@[simp] def R.bind {α β : Type} (r : R α) (f : α → M → R β) : R β := match r with
  | .ok a m => f a m
  | .exc c m => .exc c m
  | .bad => .bad

/-- a statement's end -/
inductive O where
  | nx (e : En) (m : M)
  | rt (d : D) (m : M)
  | exc (c : Nat) (e : En) (m : M)
  | bad
@[simp] def O.bind (r : O) (f : En → M → O) : O := match r with
  | .nx e m => f e m
  | .rt d m => .rt d m
  | .exc c e m => .exc c e m
  | .bad => .bad
@[simp] def R.toO (r : R D) (e : En) (f : D → M → O) : O := match r with
  | .ok d m => f d m
  | .exc c m => .exc c e m
  | .bad => .bad

/-- built-in types asked by isinstance -/
inductive Ty where
  | int | bool | str | tuple | list
  deriving DecidableEq, Inhabited

inductive Op where
  | fstr1 | tupR | listR | add | sub | mul | fdiv | mod | pow | neg | lnot
  | eq | ne | lt | le | gt | ge | isN | notN | isB | notB | isin | notin
  | ix | slF | slT | slFT | slRev
  | len | int | min2 | max2 | minL | maxL | sum | all | list | tuple | sorted | sortset | isinst (t : Ty) | str | bool
  | join | split | index
  | tup | lst | fstr
  | range1 | range2 | range3 | zip | enum
  deriving DecidableEq, Inhabited

/-- a target -/
inductive T where
  | nm (i : Nat)
  | tp (ts : List T)

mutual
inductive E where
  | var (i : Nat)
  | bor (i : Nat)
  | con (d : D)
  | op (o : Op) (as : Es)
  | and (a b : E)
  | or (a b : E)
  | ite (c a b : E)
  | chain (o p : Op) (a b c : E)
  | chain3 (o p q : Op) (a b c d : E)
  | slc (a b c : E)
  | meth (T : Ty) (o : Op) (a b : E)
  | js (as : Es)
  | call (n : Nat) (as : Es)
  | callv (f : E) (as : Es)
  | newM (as : Es)
  | comp (elt : E) (t : T) (it : E) (c : E) (own : List Nat)
  | refused (body : E)
inductive Es where
  | nil
  | cons (a : E) (as : Es)
end

mutual
inductive S where
  | set (t : T) (e : E)
  | own (i : Nat) (e : E)
  | freeze (i : Nat)
  | setIx (i : Nat) (ix e : E)
  | msetIx (o ix e : E)
  | append (i : Nat) (e : E)
  | pop (i j : Nat) (e : E)
  | ex (e : E)
  | ifs (c : E) (a b : Ss)
  | fors (t : T) (it : E) (body : Ss)
  | forOwn (t : T) (i : Nat) (body : Ss)
  | whil (c : E) (body : Ss)
  | ret (e : E)
  | retN
  | raise (c : Nat)
  | pass
  | tryN (body : Ss) (c : Nat)
inductive Ss where
  | nil
  | cons (a : S) (as : Ss)
end

/-! ### equality as Python has it -/
mutual
def D.eqv : D → D → Bool
  | .non, .non => true
  | .bl a, .bl b => a == b
  | .bl a, .int i => (if a then 1 else 0) == i
  | .int i, .bl b => i == (if b then 1 else 0)
  | .int i, .int j => i == j
  | .str x, .str y => x == y
  | .tup xs, .tup ys => D.eqvs xs ys
  | .lst xs, .lst ys => D.eqvs xs ys
  | _, _ => false
def D.eqvs : List D → List D → Bool
  | [], [] => true
  | x :: xs, y :: ys => D.eqv x y && D.eqvs xs ys
  | _, _ => false
end
mutual
/-- data alone -/
def D.pure : D → Bool
  | .tup xs => D.pures xs
  | .lst xs => D.pures xs
  | .fn _ => false
  | .mref _ => false
  | .scr _ => false
  | _ => true
def D.pures : List D → Bool
  | [] => true
  | x :: xs => D.pure x && D.pures xs
end
mutual
def D.depth : D → Nat
  | .tup xs => D.depths xs + 1
  | .lst xs => D.depths xs + 1
  | _ => 0
def D.depths : List D → Nat
  | [] => 0
  | x :: xs => max (D.depth x) (D.depths xs)
end
def LIM : Nat := 16777216
/-- what == is asked of -/
def D.cmp (x y : D) : Bool := x.pure && y.pure && decide (min x.depth y.depth ≤ 60)

/-! ### what the operators do -/
def B64 (i : Int) : Bool := decide (-18446744073709551616 < i) && decide (i < 18446744073709551616)
def small62 (i : Int) : Bool := decide (-4611686018427387904 ≤ i) && decide (i < 4611686018427387904)
/-- an index: from the front, or from the back -/
def ixN (n : Nat) (i : Int) : Option Nat := if 0 ≤ i then (if i < n then some i.toNat else none) else if -(n : Int) ≤ i then some (i + n).toNat else none
/-- a slice's end -/
def sIx (n : Nat) (v : Int) : Nat := if v < 0 then (v + (n : Int)).toNat else min v.toNat n
def cut (α : Type) (xs : List α) (lo hi : Nat) : List α := (xs.drop lo).take (hi - lo)
def rangeL (lo : Int) (n : Nat) (st : Int) : List D := (List.range n).map fun (k : Nat) => D.int (lo + (k : Int) * st)
def ints? : List D → Option (List Int)
  | [] => some []
  | .int i :: r => (ints? r).map (i :: ·)
  | _ :: _ => none
def bools? : List D → Option (List Bool)
  | [] => some []
  | .bl b :: r => (bools? r).map (b :: ·)
  | _ :: _ => none
def strs? : List D → Option (List (List Nat))
  | [] => some []
  | .str b :: r => (strs? r).map (b :: ·)
  | _ :: _ => none
def insertI (x : Int) : List Int → List Int
  | [] => [x]
  | y :: r => if x ≤ y then x :: y :: r else y :: insertI x r
def sortI : List Int → List Int
  | [] => []
  | x :: r => insertI x (sortI r)
def minI : List Int → Option Int
  | [] => none
  | [x] => some x
  | x :: r => (minI r).map fun m => if m < x then m else x
def maxI : List Int → Option Int
  | [] => none
  | [x] => some x
  | x :: r => (maxI r).map fun m => if m > x then m else x
/-- the figures of a number below a hundred -/
def strI (i : Int) : List Nat := if i < 10 then [48 + i.toNat] else [48 + i.toNat / 10, 48 + i.toNat % 10]
def joinS (sep : List Nat) : List (List Nat) → List Nat
  | [] => []
  | [x] => x
  | x :: r => x ++ sep ++ joinS sep r
/-- split at one sign -/
def splitS (c : Nat) : List Nat → List (List Nat)
  | [] => [[]]
  | x :: r => if x = c then [] :: splitS c r else match splitS c r with
    | [] => [[x]]
    | y :: ys => (x :: y) :: ys
def zipD : List D → List D → List D
  | x :: xs, y :: ys => .tup [x, y] :: zipD xs ys
  | _, _ => []
def enumD : Nat → List D → List D
  | _, [] => []
  | k, x :: xs => .tup [.int k, x] :: enumD (k + 1) xs
def anyEqv (x : D) : List D → Bool
  | [] => false
  | y :: ys => D.eqv y x || anyEqv x ys
def findEqv (x : D) : Nat → List D → Option Nat
  | _, [] => none
  | k, y :: ys => if D.eqv y x then some k else findEqv x (k + 1) ys
def findS (z : List Nat) : Nat → List (List Nat) → Option Nat
  | _, [] => none
  | k, y :: ys => if y = z then some k else findS z (k + 1) ys
def insertU (x : Int) : List Int → List Int
  | [] => [x]
  | y :: r => if x < y then x :: y :: r else if x = y then y :: r else y :: insertU x r
/-- in order, each once -/
def sortU : List Int → List Int
  | [] => []
  | x :: r => insertU x (sortU r)
def allCmp (x : D) (ys : List D) : Bool := x.pure && D.pures ys && decide (min (D.depths ys) x.depth ≤ 60)
def D.isNon : D → Bool
  | .non => true
  | _ => false
def isTy : Ty → D → Option Bool
  | .int, .int _ => some true
  | .int, .bl _ => some true
  | .bool, .bl _ => some true
  | .str, .str _ => some true
  | .tuple, .tup _ => some true
  | .list, .lst _ => some true
  | _, .fn _ => none
  | _, .mref _ => none
  | _, .scr _ => none
  | _, _ => some false
def seq? : D → Option (List D)
  | .lst xs => some xs
  | .tup xs => some xs
  | .str s => some (s.map fun c => .str [c])
  | _ => none

def app_add : List D → Option D
  | [.int i, .int j] => some (.int (i + j))
  | [.str x, .str y] => if x.length + y.length ≤ LIM then some (.str (x ++ y)) else none
  | [.lst x, .lst y] => if x.length + y.length ≤ LIM then some (.lst (x ++ y)) else none
  | [.tup x, .tup y] => if x.length + y.length ≤ LIM then some (.tup (x ++ y)) else none
  | _ => none
def app_sub : List D → Option D
  | [.int i, .int j] => some (.int (i - j))
  | _ => none
def app_mul : List D → Option D
  | [.int i, .int j] => if B64 i || B64 j then some (.int (i * j)) else none
  | [.lst x, .int j] => if small62 j && decide (x.length * j.toNat ≤ LIM) then some (.lst (List.replicate j.toNat x).flatten) else none
  | [.tup x, .int j] => if decide (2 ≤ j) && decide (j ≤ 1000) && decide (1 ≤ x.length) && decide (x.length ≤ 1000) then some (.tup (List.replicate j.toNat x).flatten) else none
  | _ => none
def app_fdiv : List D → Option D
  | [.int i, .int j] => if decide (0 < j) && decide (j.natAbs.log2 < 9000) then some (.int (i / j)) else none
  | _ => none
def app_mod : List D → Option D
  | [.int i, .int j] => if 0 < j then some (.int (i % j)) else none
  | _ => none
def app_pow : List D → Option D
  | [.int i, .int j] => if B64 i && decide (0 ≤ j) && decide (j ≤ 1000) then some (.int (i ^ j.toNat)) else none
  | _ => none
def app_neg : List D → Option D
  | [.int i] => some (.int (-i))
  | _ => none
def app_lnot : List D → Option D
  | [.bl b] => some (.bl (!b))
  | _ => none
def app_eq : List D → Option D
  | [x, y] => if D.cmp x y then some (.bl (D.eqv x y)) else none
  | _ => none
def app_ne : List D → Option D
  | [x, y] => if D.cmp x y then some (.bl (!D.eqv x y)) else none
  | _ => none
def app_lt : List D → Option D
  | [.int i, .int j] => some (.bl (decide (i < j)))
  | _ => none
def app_le : List D → Option D
  | [.int i, .int j] => some (.bl (decide (i ≤ j)))
  | _ => none
def app_gt : List D → Option D
  | [.int i, .int j] => some (.bl (decide (j < i)))
  | _ => none
def app_ge : List D → Option D
  | [.int i, .int j] => some (.bl (decide (j ≤ i)))
  | _ => none
def app_isN : List D → Option D
  | [x] => some (.bl x.isNon)
  | _ => none
def app_notN : List D → Option D
  | [x] => some (.bl (!x.isNon))
  | _ => none
def app_isB : List D → Option D
  | [.bl a, .bl b] => some (.bl (a == b))
  | _ => none
def app_notB : List D → Option D
  | [.bl a, .bl b] => some (.bl (!(a == b)))
  | _ => none
def app_isin : List D → Option D
  | [x, .lst ys] => if allCmp x ys then some (.bl (anyEqv x ys)) else none
  | [x, .tup ys] => if allCmp x ys then some (.bl (anyEqv x ys)) else none
  | [.str [c], .str y] => some (.bl (decide (c ∈ y)))
  | _ => none
def app_notin : List D → Option D
  | [x, .lst ys] => if allCmp x ys then some (.bl (!anyEqv x ys)) else none
  | [x, .tup ys] => if allCmp x ys then some (.bl (!anyEqv x ys)) else none
  | [.str [c], .str y] => some (.bl (!decide (c ∈ y)))
  | _ => none
def app_ix : List D → M → Option D
  | [.lst xs, .int i], _ => (ixN xs.length i).bind fun j => xs[j]?
  | [.tup xs, .int i], _ => (ixN xs.length i).bind fun j => xs[j]?
  | [.str xs, .int i], _ => (ixN xs.length i).bind fun j => xs[j]?.map fun c => .str [c]
  | [.mref n, .int i], m => match m[n]? with
    | some (.lst xs) => (ixN xs.length i).bind fun j => xs[j]?
    | _ => none
  | [.scr xs, .int i], _ => (ixN xs.length i).bind fun j => xs[j]?.map D.int
  | _, _ => none
def app_slF : List D → Option D
  | [.lst xs, .int i] => some (.lst (xs.drop (sIx xs.length i)))
  | [.tup xs, .int i] => some (.tup (xs.drop (sIx xs.length i)))
  | [.str xs, .int i] => some (.str (xs.drop (sIx xs.length i)))
  | _ => none
def app_slT : List D → Option D
  | [.lst xs, .int j] => some (.lst (xs.take (sIx xs.length j)))
  | [.tup xs, .int j] => some (.tup (xs.take (sIx xs.length j)))
  | [.str xs, .int j] => some (.str (xs.take (sIx xs.length j)))
  | _ => none
def app_slFT : List D → Option D
  | [.lst xs, .int i, .int j] => some (.lst (cut D xs (sIx xs.length i) (sIx xs.length j)))
  | [.tup xs, .int i, .int j] => some (.tup (cut D xs (sIx xs.length i) (sIx xs.length j)))
  | [.str xs, .int i, .int j] => some (.str (cut Nat xs (sIx xs.length i) (sIx xs.length j)))
  | _ => none
def app_slRev : List D → Option D
  | [.lst xs] => some (.lst xs.reverse)
  | [.tup xs] => some (.tup xs.reverse)
  | _ => none
def app_len : List D → Option D
  | [.lst xs] => some (.int xs.length)
  | [.scr xs] => some (.int xs.length)
  | [.tup xs] => some (.int xs.length)
  | [.str xs] => some (.int xs.length)
  | _ => none
def app_int : List D → Option D
  | [.int i] => some (.int i)
  | [.bl b] => some (.int (if b then 1 else 0))
  | [.str [c]] => if 48 ≤ c ∧ c ≤ 57 then some (.int ((c : Int) - 48)) else none
  | _ => none
def app_min2 : List D → Option D
  | [.int i, .int j] => some (.int (if j < i then j else i))
  | _ => none
def app_max2 : List D → Option D
  | [.int i, .int j] => some (.int (if j > i then j else i))
  | _ => none
def app_minL : List D → Option D
  | [.lst xs] => (ints? xs).bind fun is => (minI is).map D.int
  | _ => none
def app_maxL : List D → Option D
  | [.lst xs] => (ints? xs).bind fun is => (maxI is).map D.int
  | _ => none
def app_sum : List D → Option D
  | [.lst xs] => (ints? xs).map fun is => D.int is.sum
  | _ => none
def app_all : List D → Option D
  | [.lst xs] => (bools? xs).map fun bs => D.bl (bs.all id)
  | _ => none
def app_list : List D → Option D
  | [.lst xs] => some (.lst xs)
  | [.tup xs] => some (.lst xs)
  | _ => none
def app_tuple : List D → Option D
  | [.lst xs] => some (.tup xs)
  | [.tup xs] => some (.tup xs)
  | _ => none
def app_sorted : List D → Option D
  | [.lst xs] => (ints? xs).bind fun is => if is.length < 64 then some (.lst ((sortI is).map D.int)) else none
  | _ => none
def app_sortset : List D → Option D
  | [.tup xs] => (ints? xs).bind fun is => if is.length ≤ 1000 ∧ (sortU is).length < 64 then some (.lst ((sortU is).map D.int)) else none
  | _ => none
def app_isinst (t : Ty) : List D → Option D
  | [x] => (isTy t x).map D.bl
  | _ => none
def app_str : List D → Option D
  | [.int i] => if decide (0 ≤ i) && decide (i < 100) then some (.str (strI i)) else none
  | _ => none
def app_bool : List D → Option D
  | [.bl b] => some (.bl b)
  | _ => none
def app_join : List D → Option D
  | [.str sep, .lst xs] => (strs? xs).bind fun ss => if (ss.map List.length).sum + ss.length * sep.length ≤ LIM then some (.str (joinS sep ss)) else none
  | _ => none
def app_split : List D → Option D
  | [.str x, .str [c]] => if x.length + 2 ≤ LIM ∧ c < 128 then some (.lst ((splitS c x).map D.str)) else none
  | _ => none
def app_index : List D → Option D
  | [.tup xs, .str z] => (strs? xs).bind fun ys => (findS z 0 ys).map fun (k : Nat) => D.int k
  | _ => none
def app_tup : List D → Option D
  | xs => some (.tup xs)
def app_lst : List D → Option D
  | xs => some (.lst xs)
def app_fstr1 : List D → Option D
  | [.int i] => if decide (0 ≤ i) && decide (i < 100) then some (.str (strI i)) else none
  | [.str x] => some (.str x)
  | _ => none
def app_tupR : List D → Option D
  | [.lst xs] => some (.tup xs)
  | _ => none
def app_listR : List D → Option D
  | [.lst xs] => some (.lst xs)
  | _ => none
def app_fstr : List D → Option D
  | xs => (strs? xs).bind fun ss => if ss.flatten.length ≤ LIM then some (.str ss.flatten) else none
def app_range1 : List D → Option D
  | [.int j] => if small62 j && decide (j.toNat ≤ LIM) then some (.lst (rangeL 0 j.toNat 1)) else none
  | _ => none
def app_range2 : List D → Option D
  | [.int i, .int j] => if small62 i && small62 j && decide ((j - i).toNat ≤ LIM) then some (.lst (rangeL i (j - i).toNat 1)) else none
  | _ => none
def app_range3 : List D → Option D
  | [.int i, .int j, .int k] => if small62 i && small62 j && decide (k = -1) && decide ((i - j).toNat ≤ LIM) then some (.lst (rangeL i (i - j).toNat (-1))) else none
  | _ => none
def app_zip : List D → Option D
  | [a, b] => match a, b with
    | .lst xs, .lst ys => some (.lst (zipD xs ys))
    | .tup xs, .tup ys => some (.lst (zipD xs ys))
    | .lst xs, .tup ys => some (.lst (zipD xs ys))
    | .tup xs, .lst ys => some (.lst (zipD xs ys))
    | _, _ => none
  | _ => none
def app_enum : List D → Option D
  | [.lst xs] => some (.lst (enumD 0 xs))
  | [.tup xs] => some (.lst (enumD 0 xs))
  | _ => none
def Op.app : Op → List D → M → Option D
  | .add, ds, _ => app_add ds
  | .sub, ds, _ => app_sub ds
  | .mul, ds, _ => app_mul ds
  | .fdiv, ds, _ => app_fdiv ds
  | .mod, ds, _ => app_mod ds
  | .pow, ds, _ => app_pow ds
  | .neg, ds, _ => app_neg ds
  | .lnot, ds, _ => app_lnot ds
  | .eq, ds, _ => app_eq ds
  | .ne, ds, _ => app_ne ds
  | .lt, ds, _ => app_lt ds
  | .le, ds, _ => app_le ds
  | .gt, ds, _ => app_gt ds
  | .ge, ds, _ => app_ge ds
  | .isN, ds, _ => app_isN ds
  | .notN, ds, _ => app_notN ds
  | .isB, ds, _ => app_isB ds
  | .notB, ds, _ => app_notB ds
  | .isin, ds, _ => app_isin ds
  | .notin, ds, _ => app_notin ds
  | .ix, ds, m => app_ix ds m
  | .slF, ds, _ => app_slF ds
  | .slT, ds, _ => app_slT ds
  | .slFT, ds, _ => app_slFT ds
  | .slRev, ds, _ => app_slRev ds
  | .len, ds, _ => app_len ds
  | .int, ds, _ => app_int ds
  | .min2, ds, _ => app_min2 ds
  | .max2, ds, _ => app_max2 ds
  | .minL, ds, _ => app_minL ds
  | .maxL, ds, _ => app_maxL ds
  | .sum, ds, _ => app_sum ds
  | .all, ds, _ => app_all ds
  | .list, ds, _ => app_list ds
  | .tuple, ds, _ => app_tuple ds
  | .sorted, ds, _ => app_sorted ds
  | .sortset, ds, _ => app_sortset ds
  | .isinst t, ds, _ => app_isinst t ds
  | .str, ds, _ => app_str ds
  | .bool, ds, _ => app_bool ds
  | .join, ds, _ => app_join ds
  | .split, ds, _ => app_split ds
  | .index, ds, _ => app_index ds
  | .tup, ds, _ => app_tup ds
  | .lst, ds, _ => app_lst ds
  | .fstr1, ds, _ => app_fstr1 ds
  | .tupR, ds, _ => app_tupR ds
  | .listR, ds, _ => app_listR ds
  | .fstr, ds, _ => app_fstr ds
  | .range1, ds, _ => app_range1 ds
  | .range2, ds, _ => app_range2 ds
  | .range3, ds, _ => app_range3 ds
  | .zip, ds, _ => app_zip ds
  | .enum, ds, _ => app_enum ds

/-! ### slots -/
def En.val (e : En) (i : Nat) : Option D := match e[i]? with
  | some (some (.val d)) => some d
  | _ => none
def En.bor (e : En) (i : Nat) : Option D := match e[i]? with
  | some (some (.val d)) => some d
  | some (some (.own xs)) => some (.lst xs)
  | some (some (.lock xs)) => some (.lst xs)
  | _ => none
/-- a slot that may be stored to: no list that it owns is lost -/
def En.free (e : En) (i : Nat) : Bool := match e[i]? with
  | some none => true
  | some (some (.val _)) => true
  | some (some (.own _)) => true
  | _ => false
mutual
def T.put : T → D → En → Option En
  | .nm i, d, e => if e.free i then some (e.set i (some (.val d))) else none
  | .tp ts, d, e => match d with
    | .tup ds => T.puts ts ds e
    | _ => none
def T.puts : List T → List D → En → Option En
  | [], [], e => some e
  | t :: ts, d :: ds, e => (T.put t d e).bind fun e' => T.puts ts ds e'
  | _, _, _ => none
end
/-- the slots of a comprehension's own names, forgotten -/
def En.wipe (e : En) : List Nat → Option En
  | [] => some e
  | v :: vs => (e.wipe vs).bind fun e' => match e'[v]? with
    | some none => some (e'.set v none)
    | some (some (.val _)) => some (e'.set v none)
    | _ => none
def iter? : D → Option (List D)
  | .lst xs => some xs
  | .tup xs => some xs
  | .str s => some (s.map fun c => .str [c])
  | _ => none

/-- the words for the errors, by their classes' places -/
def errWord : Nat → List Nat
  | 1 => [112, 108, 97, 110]
  | 2 => [104, 111, 108, 100]
  | 3 => [115, 101, 110, 100]
  | 4 => [102, 105, 108, 101]
  | 5 => [108, 105, 102, 101]
  | 6 => [114, 101, 97, 100, 101, 114, 115]
  | 7 => [99, 111, 100, 101]
  | 8 => [119, 111, 114, 100, 115]
  | 9 => [115, 116, 111, 114, 101]
  | 10 => [112, 97, 114, 116]
  | 11 => [104, 101, 108, 112, 101, 114, 115]
  | 12 => [110, 117, 109, 98, 101, 114, 115]
  | 13 => [108, 111, 116]
  | 14 => [116, 97, 98, 108, 101]
  | 15 => [102, 97, 99, 116, 115]
  | 16 => [110, 117, 109, 98, 101, 114]
  | 17 => [116, 101, 120, 116]
  | 18 => [103, 111, 110, 101]
  | 19 => [116, 104, 101, 114, 101]
  | 20 => [117, 110, 108, 105, 107, 101]
  | 21 => [117, 110, 100, 111]
  | 22 => [109, 97, 110, 121]
  | _ => []

/-! ### expressions -/
abbrev CF := Nat → List D → M → R D
def compGo (one : D → M → R (Option D)) : List D → List D → M → R D
  | [], acc, m => .ok (.lst acc) m
  | d :: ds, acc, m => match one d m with
    | .ok (some x) m' => compGo one ds (acc ++ [x]) m'
    | .ok none m' => compGo one ds acc m'
    | .exc _ _ => .bad
    | .bad => .bad

mutual
def E.ev (cf : CF) : E → En → M → R D
  | .var i, e, m => match e.val i with
    | some d => .ok d m
    | none => .bad
  | .bor i, e, m => match e.bor i with
    | some d => .ok d m
    | none => .bad
  | .con d, _, m => .ok d m
  | .op o as, e, m => (Es.ev cf as e m).bind fun ds m' => match o.app ds m' with
    | some d => .ok d m'
    | none => .bad
  | .and a b, e, m => (E.ev cf a e m).bind fun d m' => match d with
    | .bl k => if k then E.ev cf b e m' else .ok (.bl false) m'
    | _ => .bad
  | .or a b, e, m => (E.ev cf a e m).bind fun d m' => match d with
    | .bl k => if k then .ok (.bl true) m' else E.ev cf b e m'
    | _ => .bad
  | .ite c a b, e, m => (E.ev cf c e m).bind fun d m' => match d with
    | .bl k => if k then E.ev cf a e m' else E.ev cf b e m'
    | _ => .bad
  | .chain o p a b c, e, m => (E.ev cf a e m).bind fun x m1 => (E.ev cf b e m1).bind fun y m2 => match o.app [x, y] m2 with
    | some (.bl k) => if k then (E.ev cf c e m2).bind fun z m3 => match p.app [y, z] m3 with
        | some d => .ok d m3
        | none => .bad
      else .ok (.bl false) m2
    | _ => .bad
  | .chain3 o p q a b c d, e, m => (E.ev cf a e m).bind fun x m1 => (E.ev cf b e m1).bind fun y m2 => match o.app [x, y] m2 with
    | some (.bl k) => if k then (E.ev cf c e m2).bind fun z m3 => match p.app [y, z] m3 with
        | some (.bl k2) => if k2 then (E.ev cf d e m3).bind fun u m4 => match q.app [z, u] m4 with
            | some d => .ok d m4
            | none => .bad
          else .ok (.bl false) m3
        | _ => .bad
      else .ok (.bl false) m2
    | _ => .bad
  | .slc a b c, e, m => (E.ev cf a e m).bind fun x m1 => (E.ev cf b e m1).bind fun y m2 => match y with
    | .int i => (E.ev cf c e m2).bind fun z m3 => match app_slFT [x, .int i, z] with
      | some d => .ok d m3
      | none => .bad
    | _ => .bad
  | .meth T o a b, e, m => (E.ev cf a e m).bind fun x m1 => match isTy T x with
    | some true => (E.ev cf b e m1).bind fun y m2 => match o.app [x, y] m2 with
      | some d => .ok d m2
      | none => .bad
    | _ => .bad
  | .js as, e, m => (Es.js cf as [] e m).bind fun s m' => .ok (.str s) m'
  | .call n as, e, m => (Es.ev cf as e m).bind fun ds m' => cf n ds m'
  | .callv f as, e, m => (E.ev cf f e m).bind fun d m1 => match d with
    | .fn n => (Es.ev cf as e m1).bind fun ds m2 => cf n ds m2
    | _ => .bad
  | .newM as, e, m => (Es.ev cf as e m).bind fun ds m' => .ok (.mref m'.length) (m' ++ [.lst ds])
  | .comp elt t it c own, e, m => (E.ev cf it e m).bind fun d m' => match iter? d, e.wipe own with
    | some ds, some e' => compGo (fun x m1 => match t.put x e' with
      | some e2 => (E.ev cf c e2 m1).bind fun k m2 => match k with
        | .bl true => (E.ev cf elt e2 m2).bind fun y m3 => .ok (some y) m3
        | .bl false => .ok none m2
        | _ => .bad
      | none => .bad) ds [] m'
    | _, _ => .bad
  | .refused body, e, m => match E.ev cf body e m with
    | .ok _ m' => .ok (.str []) m'
    | .exc c m' => .ok (.str (errWord c)) m'
    | .bad => .bad
def Es.ev (cf : CF) : Es → En → M → R (List D)
  | .nil, _, m => .ok [] m
  | .cons a as, e, m => (E.ev cf a e m).bind fun d m' => (Es.ev cf as e m').bind fun ds m2 => .ok (d :: ds) m2
def Es.js (cf : CF) : Es → List Nat → En → M → R (List Nat)
  | .nil, acc, _, m => .ok acc m
  | .cons a as, acc, e, m => (E.ev cf a e m).bind fun d m' => match d with
    | .str s => if (acc ++ s).length ≤ LIM then Es.js cf as (acc ++ s) e m' else .bad
    | _ => .bad
end

/-! ### statements -/
def En.setSl (e : En) (i : Nat) (s : Sl) : Option En := if e.free i then some (e.set i (some s)) else none
/-- xs.pop(i) -/
def popAt (xs : List D) (i : Int) : Option (D × List D) := (ixN xs.length i).bind fun j => (xs[j]?).map fun d => (d, xs.eraseIdx j)

def forGo (body : D → En → M → O) : List D → En → M → O
  | [], e, m => .nx e m
  | d :: ds, e, m => (body d e m).bind fun e' m' => forGo body ds e' m'
def whileGo (test : En → M → R D) (body : En → M → O) : Nat → En → M → O
  | 0, _, _ => .bad
  | n + 1, e, m => (test e m).toO e fun d m' => match d with
    | .bl k => if k then (body e m').bind fun e' m2 => whileGo test body n e' m2 else .nx e m'
    | _ => .bad
/-- behind a loop over a list that a slot owns -/
def unlock (i : Nat) (e : En) (m : M) : O := match e[i]? with
  | some (some (.lock xs)) => .nx (e.set i (some (.own xs))) m
  | _ => .bad

mutual
def S.ex1 (W : Nat) (cf : CF) : S → En → M → O
  | .set t x, e, m => (x.ev cf e m).toO e fun d m' => match t.put d e with
    | some e' => .nx e' m'
    | none => .bad
  | .own i x, e, m => (x.ev cf e m).toO e fun d m' => match d with
    | .lst xs => match e.setSl i (.own xs) with
      | some e' => .nx e' m'
      | none => .bad
    | _ => .bad
  | .freeze i, e, m => match e[i]? with
    | some (some (.own xs)) => .nx (e.set i (some (.val (.lst xs)))) m
    | some (some (.val d)) => .nx e m
    | _ => .bad
  | .setIx i x y, e, m => (y.ev cf e m).toO e fun d m1 => match e[i]? with
    | some (some (.own xs)) => (x.ev cf e m1).toO e fun k m2 => match k with
      | .int k => match ixN xs.length k with
        | some j => .nx (e.set i (some (.own (xs.set j d)))) m2
        | none => .bad
      | _ => .bad
    | _ => .bad
  | .msetIx o x y, e, m => (y.ev cf e m).toO e fun d m1 => (o.ev cf e m1).toO e fun r m2 => match r with
    | .mref n => (x.ev cf e m2).toO e fun k m3 => match k with
      | .int k => match m3[n]? with
        | some (.lst xs) => match ixN xs.length k with
          | some j => .nx e (m3.set n (.lst (xs.set j d)))
          | none => .bad
        | none => .bad
      | _ => .bad
    | _ => .bad
  | .append i x, e, m => match e[i]? with
    | some (some (.own xs)) => (x.ev cf e m).toO e fun d m1 => if xs.length < LIM then .nx (e.set i (some (.own (xs ++ [d])))) m1 else .bad
    | _ => .bad
  | .pop i j x, e, m => match e[i]?, e[j]? with
    | some (some (.own zs)), some (some (.own xs)) => if i = j then .bad else (x.ev cf e m).toO e fun k m1 => match k with
      | .int k => match popAt xs k with
        | some (d, ys) => if zs.length < LIM then .nx ((e.set j (some (.own ys))).set i (some (.own (zs ++ [d])))) m1 else .bad
        | none => .bad
      | _ => .bad
    | _, _ => .bad
  | .ex x, e, m => (x.ev cf e m).toO e fun _ m1 => .nx e m1
  | .ifs c a b, e, m => (c.ev cf e m).toO e fun d m1 => match d with
    | .bl k => if k then Ss.exs W cf a e m1 else Ss.exs W cf b e m1
    | _ => .bad
  | .fors t it b, e, m => (it.ev cf e m).toO e fun d m1 => match iter? d with
    | some ds => forGo (fun x e' m' => match t.put x e' with
      | some e2 => Ss.exs W cf b e2 m'
      | none => .bad) ds e m1
    | none => .bad
  | .forOwn t i b, e, m => match e[i]? with
    | some (some (.own xs)) => (forGo (fun x e' m' => match t.put x e' with
      | some e2 => Ss.exs W cf b e2 m'
      | none => .bad) xs (e.set i (some (.lock xs))) m).bind (unlock i)
    | _ => .bad
  | .whil c b, e, m => whileGo (c.ev cf) (Ss.exs W cf b) W e m
  | .ret x, e, m => (x.ev cf e m).toO e fun d m1 => .rt d m1
  | .retN, _, m => .rt .non m
  | .raise c, e, m => .exc c e m
  | .pass, e, m => .nx e m
  | .tryN b n, e, m => match Ss.exs W cf b e m with
    | .exc c e' m' => if c = n then .rt .non m' else .exc c e' m'
    | r => r
def Ss.exs (W : Nat) (cf : CF) : Ss → En → M → O
  | .nil, e, m => .nx e m
  | .cons a as, e, m => (S.ex1 W cf a e m).bind fun e' m' => Ss.exs W cf as e' m'
end

/-! ### defs -/
structure Fn where
  slots : Nat
  params : Nat
  body : Ss
def Fn.go (W : Nat) (cf : CF) (f : Fn) (ds : List D) (m : M) : R D :=
  if ds.length = f.params then match f.body.exs W cf (ds.map (fun d => some (.val d)) ++ List.replicate (f.slots - ds.length) none) m with
    | .nx _ m' => .ok .non m'
    | .rt d m' => .ok d m'
    | .exc c _ m' => .exc c m'
    | .bad => .bad
  else .bad
def run (W : Nat) (P : Nat → Option Fn) : Nat → CF
  | 0, _, _, _ => .bad
  | k + 1, n, ds, m => match P n with
    | some f => f.go W (run W P k) ds m
    | none => .bad
end Rf

/-! RWp: what a run of the pure interpreter must show for a wish about its end; the rules by which simp walks. -/
namespace Rw
open Rf
def R.Wp {α : Type} (r : R α) (Q : α → M → Prop) (X : Nat → M → Prop) : Prop := match r with
  | .ok a m => Q a m
  | .exc c m => X c m
  | .bad => False
def O.Wp (o : O) (N : En → M → Prop) (V : D → M → Prop) (X : Nat → M → Prop) : Prop := match o with
  | .nx e m => N e m
  | .rt d m => V d m
  | .exc c e m => X c m
  | .bad => False
def optW {α : Type} (o : Option α) (f : α → Prop) : Prop := match o with
  | some a => f a
  | none => False
def blW (d : D) (f : Bool → Prop) : Prop := match d with
  | .bl k => f k
  | _ => False
section
variable {α β : Type} {Q Q' : α → M → Prop} {X X' : Nat → M → Prop} {N N' : En → M → Prop} {V V' : D → M → Prop} {W k n i j : Nat} {P : Nat → Option Fn} {cf : CF} {e : En} {m : M} {as : Es} {a b c : E} {d x y : D} {ds : List D} {f : D → Prop} {o : Op}
theorem R.Wp.imp {r : R α} (h : R.Wp r Q X) (h1 : ∀ a m, Q a m → Q' a m) (h2 : ∀ c m, X c m → X' c m) : R.Wp r Q' X' := by
  cases r with
  | ok a m => exact h1 _ _ h
  | exc c m => exact h2 _ _ h
  | bad => exact h
theorem R.Wp.ok_of {r : R α} (h : R.Wp r Q fun _ _ => False) : ∃ a m, r = .ok a m ∧ Q a m := by
  cases r with
  | ok a m => exact ⟨a, m, rfl, h⟩
  | exc c m => exact h.elim
  | bad => exact h.elim
theorem O.Wp.imp {r : O} (h : O.Wp r N V X) (h1 : ∀ a m, N a m → N' a m) (h2 : ∀ a m, V a m → V' a m) (h3 : ∀ c m, X c m → X' c m) : O.Wp r N' V' X' := by
  cases r with
  | nx a m => exact h1 _ _ h
  | rt a m => exact h2 _ _ h
  | exc c _ m => exact h3 _ _ h
  | bad => exact h
theorem w_ok {a : α} : R.Wp (.ok a m) Q X = Q a m := id rfl
theorem w_exc {c : Nat} : R.Wp (α := α) (.exc c m) Q X = X c m := id rfl
theorem w_bind {r : R β} {g : β → M → R α} : R.Wp (r.bind g) Q X = R.Wp r (fun a m' => R.Wp (g a m') Q X) X := by cases r <;> rfl
theorem w_toO {r : R D} {g : D → M → O} : O.Wp (r.toO e g) N V X = R.Wp r (fun d m' => O.Wp (g d m') N V X) X := by cases r <;> rfl
theorem w_obind {r : O} {g : En → M → O} : O.Wp (r.bind g) N V X = O.Wp r (fun e' m' => O.Wp (g e' m') N V X) V X := by cases r <;> rfl
theorem w_ite {c : Prop} [Decidable c] {r s : R α} : R.Wp (if c then r else s) Q X = if c then R.Wp r Q X else R.Wp s Q X := by split <;> rfl
theorem w_oite {c : Prop} [Decidable c] {r s : O} : O.Wp (if c then r else s) N V X = if c then O.Wp r N V X else O.Wp s N V X := by split <;> rfl
theorem optW_some {a : α} {f : α → Prop} : optW (some a) f = f a := id rfl
theorem optW_ite {c : Prop} [Decidable c] {r s : Option α} {f : α → Prop} : optW (if c then r else s) f = if c then optW r f else optW s f := by split <;> rfl
theorem optW_if {c : Prop} [Decidable c] {a : α} {f : α → Prop} : optW (if c then some a else none) f = (c ∧ f a) := by
  by_cases h : c <;> simp [h, optW]
theorem optW_none {f : α → Prop} : optW none f = False := id rfl
theorem blW_bl {k : Bool} {f : Bool → Prop} : blW (.bl k) f = f k := id rfl
theorem en_val0 : En.val (some (.val d) :: e) 0 = some d := id rfl
theorem en_valS {s : Option Sl} : En.val (s :: e) (n + 1) = En.val e n := id rfl
theorem en_bor0 : En.bor (some (.val d) :: e) 0 = some d := id rfl
theorem en_bor0o : En.bor (some (.own ds) :: e) 0 = some (.lst ds) := id rfl
theorem en_bor0l : En.bor (some (.lock ds) :: e) 0 = some (.lst ds) := id rfl
theorem en_borS {s : Option Sl} : En.bor (s :: e) (n + 1) = En.bor e n := id rfl
theorem en_free0 : En.free (none :: e) 0 = true := id rfl
theorem en_free0v : En.free (some (.val d) :: e) 0 = true := id rfl
theorem en_free0o : En.free (some (.own ds) :: e) 0 = true := id rfl
theorem en_freeS {s : Option Sl} : En.free (s :: e) (n + 1) = En.free e n := id rfl
theorem vw0 : optW (En.val (some (.val d) :: e) 0) f = f d := id rfl
theorem vwS {s : Option Sl} : optW (En.val (s :: e) (n + 1)) f = optW (En.val e n) f := id rfl
theorem bw0 : optW (En.bor (some (.val d) :: e) 0) f = f d := id rfl
theorem bw0o : optW (En.bor (some (.own ds) :: e) 0) f = f (.lst ds) := id rfl
theorem bw0l : optW (En.bor (some (.lock ds) :: e) 0) f = f (.lst ds) := id rfl
theorem bwS {s : Option Sl} : optW (En.bor (s :: e) (n + 1)) f = optW (En.bor e n) f := id rfl
/-- what a place holds -/
def ownW (e : En) (i : Nat) (f : List D → Prop) : Prop := match e[i]? with
  | some (some (.own xs)) => f xs
  | _ => False
theorem ownW0 {f : List D → Prop} : ownW (some (.own ds) :: e) 0 f = f ds := id rfl
theorem ownWS {f : List D → Prop} {s : Option Sl} : ownW (s :: e) (n + 1) f = ownW e n f := id rfl
theorem en_setZ {s t : Option Sl} : List.set (s :: e) 0 t = t :: e := id rfl
theorem en_setS {s t : Option Sl} : List.set (s :: e) (n + 1) t = s :: List.set e n t := id rfl
/-! expressions -/
theorem w_var : R.Wp (E.ev cf (.var i) e m) V X = optW (e.val i) fun d => V d m := by rw [E.ev]; cases e.val i <;> rfl
theorem w_bor : R.Wp (E.ev cf (.bor i) e m) V X = optW (e.bor i) fun d => V d m := by rw [E.ev]; cases e.bor i <;> rfl
theorem w_con : R.Wp (E.ev cf (.con d) e m) V X = V d m := by rw [E.ev]; exact id rfl
theorem w_op : R.Wp (E.ev cf (.op o as) e m) V X = R.Wp (Es.ev cf as e m) (fun ds m' => optW (o.app ds m') fun d => V d m') X := by
  rw [E.ev, w_bind]; congr; funext ds m'; cases o.app ds m' <;> rfl
theorem w_nil {Q : List D → M → Prop} : R.Wp (Es.ev cf .nil e m) Q X = Q [] m := by rw [Es.ev]; exact id rfl
theorem w_cons {Q : List D → M → Prop} : R.Wp (Es.ev cf (.cons a as) e m) Q X = R.Wp (E.ev cf a e m) (fun d m' => R.Wp (Es.ev cf as e m') (fun ds m2 => Q (d :: ds) m2) X) X := by
  rw [Es.ev, w_bind]; congr; funext d m'; rw [w_bind]; rfl
theorem w_and : R.Wp (E.ev cf (.and a b) e m) V X = R.Wp (E.ev cf a e m) (fun d m' => blW d fun k => if k then R.Wp (E.ev cf b e m') V X else V (.bl false) m') X := by
  rw [E.ev, w_bind]; congr; funext d m'; cases d <;> try rfl
  case bl k => cases k <;> rfl
theorem w_or : R.Wp (E.ev cf (.or a b) e m) V X = R.Wp (E.ev cf a e m) (fun d m' => blW d fun k => if k then V (.bl true) m' else R.Wp (E.ev cf b e m') V X) X := by
  rw [E.ev, w_bind]; congr; funext d m'; cases d <;> try rfl
  case bl k => cases k <;> rfl
theorem w_eite : R.Wp (E.ev cf (.ite c a b) e m) V X = R.Wp (E.ev cf c e m) (fun d m' => blW d fun k => if k then R.Wp (E.ev cf a e m') V X else R.Wp (E.ev cf b e m') V X) X := by
  rw [E.ev, w_bind]; congr; funext d m'; cases d <;> try rfl
  case bl k => cases k <;> rfl
theorem w_chain {o p : Op} : R.Wp (E.ev cf (.chain o p a b c) e m) V X = R.Wp (E.ev cf a e m) (fun x m1 => R.Wp (E.ev cf b e m1) (fun y m2 => optW (o.app [x, y] m2) fun d => blW d fun k => if k then R.Wp (E.ev cf c e m2) (fun z m3 => optW (p.app [y, z] m3) fun d => V d m3) X else V (.bl false) m2) X) X := by
  rw [E.ev, w_bind]; congr; funext x m1; rw [w_bind]; congr; funext y m2
  rcases o.app [x, y] m2 with _ | d
  · rfl
  · cases d <;> try rfl
    case bl k =>
      cases k
      · rfl
      · show R.Wp (R.bind _ _) _ _ = _
        rw [w_bind]; simp only [optW, blW, if_true]; congr; funext z m3; cases p.app [y, z] m3 <;> rfl
theorem w_chain3 {o p q : Op} {a2 : E} : R.Wp (E.ev cf (.chain3 o p q a b c a2) e m) V X = R.Wp (E.ev cf a e m) (fun x m1 => R.Wp (E.ev cf b e m1) (fun y m2 => optW (o.app [x, y] m2) fun d => blW d fun k => if k then R.Wp (E.ev cf c e m2) (fun z m3 => optW (p.app [y, z] m3) fun d => blW d fun k => if k then R.Wp (E.ev cf a2 e m3) (fun u m4 => optW (q.app [z, u] m4) fun d => V d m4) X else V (.bl false) m3) X else V (.bl false) m2) X) X := by
  rw [E.ev, w_bind]; congr; funext x m1; rw [w_bind]; congr; funext y m2
  rcases o.app [x, y] m2 with _ | d
  · rfl
  · cases d <;> try rfl
    case bl k =>
      cases k
      · rfl
      · show R.Wp (R.bind _ _) _ _ = _
        rw [w_bind]; simp only [optW, blW, if_true]; congr; funext z m3
        rcases p.app [y, z] m3 with _ | d
        · rfl
        · cases d <;> try rfl
          case bl k =>
            cases k
            · rfl
            · show R.Wp (R.bind _ _) _ _ = _
              rw [w_bind]; simp only [optW, blW, if_true]; congr; funext z m3; cases q.app _ m3 <;> rfl
/-- a value's kind -/
def isTyW (T : Ty) (x : D) (P : Prop) : Prop := match isTy T x with
  | some true => P
  | _ => False
theorem isTyW_str {s : List Nat} {P : Prop} : isTyW .str (.str s) P = P := id rfl
theorem w_meth {T : Ty} : R.Wp (E.ev cf (.meth T o a b) e m) V X = R.Wp (E.ev cf a e m) (fun x m1 => isTyW T x (R.Wp (E.ev cf b e m1) (fun y m2 => optW (o.app [x, y] m2) fun d => V d m2) X)) X := by
  rw [E.ev, w_bind]; congr; funext x m1; unfold isTyW
  rcases isTy T x with _ | k
  · rfl
  · cases k
    · rfl
    · simp only []
      rw [w_bind]; congr; funext y m2; cases o.app [x, y] m2 <;> rfl
/-- a text's signs -/
def strW (d : D) (f : List Nat → Prop) : Prop := match d with
  | .str s => f s
  | _ => False
theorem strW_s {s : List Nat} {f : List Nat → Prop} : strW (.str s) f = f s := id rfl
theorem w_js : R.Wp (E.ev cf (.js as) e m) V X = R.Wp (Es.js cf as [] e m) (fun s m' => V (.str s) m') X := by rw [E.ev, w_bind]; rfl
theorem w_jsn {acc : List Nat} {Q : List Nat → M → Prop} : R.Wp (Es.js cf .nil acc e m) Q X = Q acc m := by rw [Es.js]; rfl
theorem w_jsc {acc : List Nat} {Q : List Nat → M → Prop} : R.Wp (Es.js cf (.cons a as) acc e m) Q X = R.Wp (E.ev cf a e m) (fun d m' => strW d fun s => (acc ++ s).length ≤ LIM ∧ R.Wp (Es.js cf as (acc ++ s) e m') Q X) X := by
  rw [Es.js, w_bind]; congr; funext d m'; cases d <;> try rfl
  case str s =>
    simp only [strW]
    by_cases h : (acc ++ s).length ≤ LIM
    · simp only [h, if_true, true_and]
    · simp only [h, if_false, false_and, R.Wp]
/-- a number -/
def intW (d : D) (f : Int → Prop) : Prop := match d with
  | .int i => f i
  | _ => False
theorem intW_i {p : Int} {g : Int → Prop} : intW (.int p) g = g p := id rfl
theorem w_slc : R.Wp (E.ev cf (.slc a b c) e m) V X = R.Wp (E.ev cf a e m) (fun x m1 => R.Wp (E.ev cf b e m1) (fun y m2 => intW y fun i => R.Wp (E.ev cf c e m2) (fun z m3 => optW (app_slFT [x, .int i, z]) fun d => V d m3) X) X) X := by
  rw [E.ev, w_bind]; congr; funext x m1; rw [w_bind]; congr; funext y m2; cases y <;> try rfl
  case int i =>
    show R.Wp (R.bind _ _) _ _ = _
    rw [w_bind]; simp only [intW]; congr; funext z m3; cases app_slFT [x, .int i, z] <;> rfl
theorem w_call : R.Wp (E.ev cf (.call n as) e m) V X = R.Wp (Es.ev cf as e m) (fun ds m' => R.Wp (cf n ds m') V X) X := by rw [E.ev, w_bind]
theorem w_callv {g : E} : R.Wp (E.ev cf (.callv g as) e m) V X = R.Wp (E.ev cf g e m) (fun d m1 => match d with
    | .fn n => R.Wp (Es.ev cf as e m1) (fun ds m' => R.Wp (cf n ds m') V X) X
    | _ => False) X := by
  rw [E.ev, w_bind]; congr; funext d m1; cases d <;> try rfl
  case fn n => exact w_bind
theorem w_newM : R.Wp (E.ev cf (.newM as) e m) V X = R.Wp (Es.ev cf as e m) (fun ds m' => V (.mref m'.length) (m' ++ [.lst ds])) X := by rw [E.ev, w_bind]; exact id rfl
/-- one turn of a comprehension -/
def compOne (cf : CF) (elt : E) (t : Rf.T) (c : E) (e' : En) (x : D) (m1 : M) : R (Option D) := match t.put x e' with
  | some e2 => (E.ev cf c e2 m1).bind fun k m2 => match k with
    | .bl true => (E.ev cf elt e2 m2).bind fun y m3 => .ok (some y) m3
    | .bl false => .ok none m2
    | _ => .bad
  | none => .bad
def noX : Nat → M → Prop := fun _ _ => False
theorem w_comp {elt : E} {t : Rf.T} {it : E} {own : List Nat} : R.Wp (E.ev cf (.comp elt t it c own) e m) V X = R.Wp (E.ev cf it e m) (fun d m' => optW (iter? d) fun ds => optW (e.wipe own) fun e' => R.Wp (compGo (compOne cf elt t c e') ds [] m') V noX) X := by
  rw [E.ev, w_bind]; congr; funext d m'
  rcases iter? d with _ | ds
  · rfl
  · rcases e.wipe own with _ | e'
    · rfl
    · show R.Wp (compGo (compOne cf elt t c e') ds [] m') V X = R.Wp (compGo (compOne cf elt t c e') ds [] m') V noX
      have : ∀ (g : D → M → R (Option D)) ds acc m, R.Wp (compGo g ds acc m) V X = R.Wp (compGo g ds acc m) V noX := by
        intro g ds
        induction ds with
        | nil => intro acc m; rfl
        | cons x xs ih =>
          intro acc m
          rw [compGo]
          rcases g x m with ⟨o, m'⟩ | _ | _
          · cases o <;> exact ih _ _
          · rfl
          · rfl
      exact this _ _ _ _
theorem w_one {elt : E} {t : Rf.T} {Q : Option D → M → Prop} : R.Wp (compOne cf elt t c e x m) Q X = optW (t.put x e) fun e2 => R.Wp (E.ev cf c e2 m) (fun k m2 => blW k fun k => if k then R.Wp (E.ev cf elt e2 m2) (fun y m3 => Q (some y) m3) X else Q none m2) X := by
  unfold compOne
  rcases t.put x e with _ | e2
  · rfl
  · show R.Wp (R.bind _ _) _ _ = _
    rw [w_bind]; simp only [optW]; congr; funext k m2; cases k <;> try rfl
    case bl k =>
      cases k
      · rfl
      · show R.Wp (R.bind _ _) _ _ = _
        rw [w_bind]; rfl
theorem w_refused : R.Wp (E.ev cf (.refused a) e m) V X = R.Wp (E.ev cf a e m) (fun _ m' => V (.str []) m') (fun c m' => V (.str (errWord c)) m') := by
  rw [E.ev]; rcases E.ev cf a e m with ⟨_, _⟩ | ⟨_, _⟩ | _ <;> rfl
/-! targets -/
theorem w_nm {g : En → Prop} : optW (Rf.T.put (.nm i) d e) g = (e.free i = true ∧ g (e.set i (some (.val d)))) := by
  rw [Rf.T.put]
  cases e.free i
  · simp only [Bool.false_eq_true, if_false, optW, false_and]
  · simp only [if_true, optW, true_and]
theorem w_tp {g : En → Prop} {ts : List Rf.T} : optW (Rf.T.put (.tp ts) (.tup ds) e) g = optW (Rf.T.puts ts ds e) g := by rw [Rf.T.put]
theorem w_tp0 {g : En → Prop} : optW (Rf.T.puts [] [] e) g = g e := by rw [Rf.T.puts]; exact id rfl
theorem w_tpS {g : En → Prop} {t : Rf.T} {ts : List Rf.T} : optW (Rf.T.puts (t :: ts) (d :: ds) e) g = optW (Rf.T.put t d e) fun e' => optW (Rf.T.puts ts ds e') g := by
  rw [Rf.T.puts]; cases Rf.T.put t d e <;> rfl
theorem w_wipe0 {g : En → Prop} : optW (En.wipe e []) g = g e := id rfl
def vf (s : Option Sl) : Bool := match s with
  | none => true
  | some (.val _) => true
  | _ => false
def vfAt (e : En) (i : Nat) : Bool := match e[i]? with
  | some s => vf s
  | none => false
theorem vfAt0 {s : Option Sl} : vfAt (s :: e) 0 = vf s := id rfl
theorem vfAtS {s : Option Sl} : vfAt (s :: e) (n + 1) = vfAt e n := id rfl
theorem vf0 : vf none = true := id rfl
theorem vf1 : vf (some (.val d)) = true := id rfl
theorem w_wipeS {g : En → Prop} {v : Nat} {vs : List Nat} : optW (En.wipe e (v :: vs)) g = optW (En.wipe e vs) fun e' => vfAt e' v = true ∧ g (e'.set v none) := by
  rw [En.wipe]
  rcases En.wipe e vs with _ | e'
  · rfl
  · simp only [Option.bind, optW, vfAt]
    rcases e'[v]? with _ | s
    · simp
    · rcases s with _ | s
      · simp [vf]
      · cases s <;> simp [vf]
/-! statements -/
theorem s_set {t : Rf.T} : O.Wp (S.ex1 W cf (.set t a) e m) N V X = R.Wp (E.ev cf a e m) (fun d m' => optW (t.put d e) fun e' => N e' m') X := by
  rw [S.ex1, w_toO]; congr; funext d m'; cases t.put d e <;> rfl
theorem s_own : O.Wp (S.ex1 W cf (.own i a) e m) N V X = R.Wp (E.ev cf a e m) (fun d m' => match d with
    | .lst xs => e.free i = true ∧ N (e.set i (some (.own xs))) m'
    | _ => False) X := by
  rw [S.ex1, w_toO]; congr; funext d m'; cases d <;> try rfl
  case lst xs =>
    simp only [En.setSl]
    cases e.free i
    · simp [O.Wp]
    · simp [O.Wp]
/-- a list's things -/
def lstW (d : D) (f : List D → Prop) : Prop := match d with
  | .lst xs => f xs
  | _ => False
theorem lstW_l {f : List D → Prop} : lstW (.lst ds) f = f ds := id rfl
theorem s_own' : O.Wp (S.ex1 W cf (.own i a) e m) N V X = R.Wp (E.ev cf a e m) (fun d m' => lstW d fun xs => e.free i = true ∧ N (e.set i (some (.own xs))) m') X := by
  rw [s_own]; congr
def frzW (e : En) (i : Nat) (f : Option Sl → Prop) : Prop := match e[i]? with
  | some (some (.own xs)) => f (some (.val (.lst xs)))
  | some (some (.val d)) => f (some (.val d))
  | _ => False
theorem frzW0 {f : Option Sl → Prop} : frzW (some (.own ds) :: e) 0 f = f (some (.val (.lst ds))) := id rfl
theorem frzW0v {f : Option Sl → Prop} : frzW (some (.val d) :: e) 0 f = f (some (.val d)) := id rfl
theorem frzWS {f : Option Sl → Prop} {s : Option Sl} : frzW (s :: e) (n + 1) f = frzW e n f := id rfl
theorem set_same {s : Option Sl} : ∀ {e : En} {i : Nat}, e[i]? = some s → e.set i s = e
  | [], i, h => by simp at h
  | x :: e, 0, h => by simp at h; simp [h]
  | x :: e, i + 1, h => by simp at h; simp [set_same h]
theorem s_frz : O.Wp (S.ex1 W cf (.freeze i) e m) N V X = frzW e i fun s => N (e.set i s) m := by
  rw [S.ex1]; unfold frzW
  rcases h : e[i]? with _ | s
  · rfl
  · rcases s with _ | s
    · rfl
    · cases s <;> try rfl
      case val d => simp only [O.Wp]; rw [set_same h]
theorem s_setIx : O.Wp (S.ex1 W cf (.setIx i a b) e m) N V X = R.Wp (E.ev cf b e m) (fun d m1 => ownW e i fun xs => R.Wp (E.ev cf a e m1) (fun k m2 => match k with
    | .int k => optW (ixN xs.length k) fun j => N (e.set i (some (.own (xs.set j d)))) m2
    | _ => False) X) X := by
  rw [S.ex1, w_toO]; congr; funext d m1; unfold ownW
  rcases e[i]? with _ | s
  · rfl
  · rcases s with _ | s
    · rfl
    · cases s <;> try rfl
      case own xs =>
        simp only []
        rw [w_toO]; congr; funext k m2; cases k <;> try rfl
        case int k => simp only []; cases ixN xs.length k <;> rfl
/-- what the memory holds at a place -/
def memW (m : M) (n : Nat) (f : List D → Prop) : Prop := match m[n]? with
  | some (.lst xs) => f xs
  | none => False
theorem s_msetIx {o x y : E} : O.Wp (S.ex1 W cf (.msetIx o x y) e m) N V X = R.Wp (E.ev cf y e m) (fun d m1 => R.Wp (E.ev cf o e m1) (fun r m2 => match r with
    | .mref n => R.Wp (E.ev cf x e m2) (fun k m3 => match k with
      | .int k => memW m3 n fun xs => optW (ixN xs.length k) fun j => N e (m3.set n (.lst (xs.set j d)))
      | _ => False) X
    | _ => False) X) X := by
  rw [S.ex1, w_toO]; congr; funext d m1; rw [w_toO]; congr; funext r m2; cases r <;> try rfl
  case mref n =>
    simp only []
    rw [w_toO]; congr; funext k m3; cases k <;> try rfl
    case int k =>
      simp only [memW]
      rcases m3[n]? with _ | s
      · rfl
      · cases s; simp only []; cases ixN _ k <;> rfl
theorem s_append : O.Wp (S.ex1 W cf (.append i a) e m) N V X = ownW e i fun xs => R.Wp (E.ev cf a e m) (fun d m1 => xs.length < LIM ∧ N (e.set i (some (.own (xs ++ [d])))) m1) X := by
  rw [S.ex1]; unfold ownW
  rcases e[i]? with _ | s
  · rfl
  · rcases s with _ | s
    · rfl
    · cases s <;> try rfl
      case own xs =>
        simp only []
        rw [w_toO]; congr; funext d m1
        by_cases h : xs.length < LIM
        · simp [h, O.Wp]
        · simp [h, O.Wp]
theorem s_pop : O.Wp (S.ex1 W cf (.pop i j a) e m) N V X = ownW e i fun zs => ownW e j fun xs => i ≠ j ∧ R.Wp (E.ev cf a e m) (fun k m1 => match k with
    | .int k => optW (popAt xs k) fun p => zs.length < LIM ∧ N ((e.set j (some (.own p.2))).set i (some (.own (zs ++ [p.1])))) m1
    | _ => False) X := by
  rw [S.ex1]; unfold ownW
  rcases e[i]? with _ | s
  · rfl
  · rcases s with _ | s
    · rfl
    · cases s <;> try rfl
      case own zs =>
        simp only []
        rcases e[j]? with _ | s
        · rfl
        · rcases s with _ | s
          · rfl
          · cases s <;> try rfl
            case own xs =>
              simp only []
              by_cases hij : i = j
              · simp [hij, O.Wp]
              · simp only [hij, if_false, ne_eq, not_false_eq_true, true_and]
                rw [w_toO]; congr; funext k m1; cases k <;> try rfl
                case int k =>
                  simp only []
                  rcases popAt xs k with _ | ⟨d, ys⟩
                  · rfl
                  · by_cases h : zs.length < LIM
                    · simp [h, O.Wp, optW]
                    · simp [h, O.Wp, optW]
theorem s_ex : O.Wp (S.ex1 W cf (.ex a) e m) N V X = R.Wp (E.ev cf a e m) (fun _ m1 => N e m1) X := by rw [S.ex1, w_toO]; exact id rfl
theorem s_if {p q : Ss} : O.Wp (S.ex1 W cf (.ifs c p q) e m) N V X = R.Wp (E.ev cf c e m) (fun d m1 => blW d fun k => if k then O.Wp (Ss.exs W cf p e m1) N V X else O.Wp (Ss.exs W cf q e m1) N V X) X := by
  rw [S.ex1, w_toO]; congr; funext d m1; cases d <;> try rfl
  case bl k => cases k <;> rfl
/-- one turn of a loop -/
def forOne (W : Nat) (cf : CF) (t : Rf.T) (b : Ss) (x : D) (e : En) (m : M) : O := match t.put x e with
  | some e2 => Ss.exs W cf b e2 m
  | none => .bad
theorem w_fone {t : Rf.T} {b : Ss} : O.Wp (forOne W cf t b x e m) N V X = optW (t.put x e) fun e2 => O.Wp (Ss.exs W cf b e2 m) N V X := by
  unfold forOne; cases t.put x e <;> rfl
theorem s_for {t : Rf.T} {b : Ss} : O.Wp (S.ex1 W cf (.fors t a b) e m) N V X = R.Wp (E.ev cf a e m) (fun d m1 => optW (iter? d) fun ds => O.Wp (forGo (forOne W cf t b) ds e m1) N V X) X := by
  rw [S.ex1, w_toO]; congr; funext d m1; cases iter? d <;> rfl
theorem s_forOwn {t : Rf.T} {b : Ss} : O.Wp (S.ex1 W cf (.forOwn t i b) e m) N V X = ownW e i fun xs => O.Wp (forGo (forOne W cf t b) xs (e.set i (some (.lock xs))) m) (fun e' m' => O.Wp (unlock i e' m') N V X) V X := by
  rw [S.ex1]; unfold ownW
  rcases e[i]? with _ | s
  · rfl
  · rcases s with _ | s
    · rfl
    · cases s <;> try rfl
      case own xs =>
        simp only []
        rw [w_obind]; rfl
theorem s_while {b : Ss} : O.Wp (S.ex1 W cf (.whil c b) e m) N V X = O.Wp (whileGo (c.ev cf) (Ss.exs W cf b) W e m) N V X := by rw [S.ex1]
theorem s_ret : O.Wp (S.ex1 W cf (.ret a) e m) N V X = R.Wp (E.ev cf a e m) V X := by rw [S.ex1, w_toO]; exact id rfl
theorem s_retN : O.Wp (S.ex1 W cf .retN e m) N V X = V .non m := by rw [S.ex1]; exact id rfl
theorem s_raise {c : Nat} : O.Wp (S.ex1 W cf (.raise c) e m) N V X = X c m := by rw [S.ex1]; exact id rfl
theorem s_tryN {b : Ss} {n : Nat} : O.Wp (S.ex1 W cf (.tryN b n) e m) N V X = O.Wp (Ss.exs W cf b e m) N V (fun c m' => if c = n then V .non m' else X c m') := by
  rw [S.ex1]
  cases Ss.exs W cf b e m with
  | exc c e' m' =>
    simp only [O.Wp]
    by_cases h : c = n <;> simp [h]
  | _ => rfl
theorem s_pass : O.Wp (S.ex1 W cf .pass e m) N V X = N e m := by rw [S.ex1]; exact id rfl
theorem ss_nil : O.Wp (Ss.exs W cf .nil e m) N V X = N e m := by rw [Ss.exs]; exact id rfl
theorem ss_cons {s : S} {b : Ss} : O.Wp (Ss.exs W cf (.cons s b) e m) N V X = O.Wp (S.ex1 W cf s e m) (fun e' m' => O.Wp (Ss.exs W cf b e' m') N V X) V X := by rw [Ss.exs, w_obind]
/-! loops -/
theorem for_nil {body : D → En → M → O} : O.Wp (forGo body [] e m) N V X = N e m := id rfl
theorem for_cons {body : D → En → M → O} : O.Wp (forGo body (d :: ds) e m) N V X = O.Wp (body d e m) (fun e' m' => O.Wp (forGo body ds e' m') N V X) V X := by rw [forGo, w_obind]
theorem for_inv {body : D → En → M → O} (I : List D → En → M → Prop) (hs : ∀ d r e m, I (d :: r) e m → O.Wp (body d e m) (I r) V X) (hn : ∀ e m, I [] e m → N e m) : ∀ {ds e m}, I ds e m → O.Wp (forGo body ds e m) N V X
  | [], e, m, h => hn e m h
  | d :: r, e, m, h => by
    rw [for_cons]
    exact (hs d r e m h).imp (fun e' m' h' => for_inv I hs hn h') (fun _ _ h => h) (fun _ _ h => h)
theorem while_inv {test : En → M → R D} {body : En → M → O} (I : Nat → En → M → Prop) (hs : ∀ n e m, I n e m → R.Wp (test e m) (fun d m' => blW d fun k => if k then O.Wp (body e m') (fun e' m2 => ∃ n', n' < n ∧ I n' e' m2) V X else N e m') X) : ∀ {w n e m}, n < w → I n e m → O.Wp (whileGo test body w e m) N V X := by
  intro w
  induction w with
  | zero => intro n e m h; omega
  | succ w ih =>
    intro n e m h hi
    rw [whileGo, w_toO]
    refine (hs n e m hi).imp (fun d m' hd => ?_) (fun _ _ h => h)
    cases d <;> try exact hd.elim
    case bl k =>
      cases k
      · exact hd
      · show O.Wp (O.bind _ _) _ _ _
        rw [w_obind]
        exact O.Wp.imp hd (fun e' m2 ⟨n', hn, h'⟩ => ih (by omega) h') (fun _ _ h => h) (fun _ _ h => h)
/-! comprehensions -/
theorem comp_cons {g : D → M → R (Option D)} {acc : List D} : R.Wp (compGo g (d :: ds) acc m) V noX = R.Wp (g d m) (fun o m' => R.Wp (compGo g ds (acc ++ o.toList) m') V noX) noX := by
  rw [compGo]
  rcases g d m with ⟨o, m'⟩ | _ | _
  · cases o
    · simp [R.Wp]
    · rfl
  · rfl
  · rfl
theorem comp_nil {g : D → M → R (Option D)} {acc : List D} : R.Wp (compGo g [] acc m) V X = V (.lst acc) m := id rfl
/-- with an invariant of the memory -/
theorem comp_inv' {g : D → M → R (Option D)} (I : M → Prop) (A : D → Prop) : ∀ {ds acc m}, I m → (∀ x, x ∈ ds → ∀ m, I m → R.Wp (g x m) (fun o m' => I m' ∧ ∀ y, o = some y → A y) noX) → (∀ ys m', I m' → (∀ y, y ∈ ys → A y) → V (.lst (acc ++ ys)) m') → R.Wp (compGo g ds acc m) V noX
  | [], acc, m, hi, _, hT => by
    have := hT [] m hi (fun _ h => nomatch h)
    rw [List.append_nil] at this
    exact this
  | d :: ds, acc, m, hi, hg, hT => by
    rw [comp_cons]
    refine (hg d (.head _) m hi).imp (fun o m' ho => ?_) (fun _ _ h => h)
    refine comp_inv' I A ho.1 (fun x hx => hg x (.tail _ hx)) fun ys m2 h2 hy => ?_
    rw [List.append_assoc]
    refine hT _ _ h2 fun y hy' => ?_
    rcases List.mem_append.mp hy' with h | h
    · exact ho.2 y (by cases o <;> simp_all)
    · exact hy y h
/-- each turn gives one thing -/
theorem comp_inv {g : D → M → R (Option D)} (I : M → Prop) (A : D → Prop) : ∀ {ds acc m}, I m → (∀ x, x ∈ ds → ∀ m, I m → R.Wp (g x m) (fun o m' => I m' ∧ ∃ y, o = some y ∧ A y) noX) → (∀ ys m', I m' → (∀ y, y ∈ ys → A y) → ys.length = ds.length → V (.lst (acc ++ ys)) m') → R.Wp (compGo g ds acc m) V noX
  | [], acc, m, hi, _, hT => by
    have := hT [] m hi (fun _ h => nomatch h) rfl
    rw [List.append_nil] at this
    exact this
  | d :: ds, acc, m, hi, hg, hT => by
    rw [comp_cons]
    refine (hg d (.head _) m hi).imp (fun o m' ho => ?_) (fun _ _ h => h)
    obtain ⟨h1, y, rfl, h2⟩ := ho
    refine comp_inv I A h1 (fun x hx => hg x (.tail _ hx)) fun ys m2 hm hy hl => ?_
    rw [List.append_assoc]
    refine hT _ _ hm (fun z hz => ?_) (by simp [hl])
    rcases List.mem_append.mp hz with h | h
    · simp at h; rw [h]; exact h2
    · exact hy z h
/-- without the memory: what each turn gives is known -/
theorem comp_fm {g : D → M → R (Option D)} {γ : Type} (r : γ → D) (f : γ → Option D) (L : List γ) {acc : List D} {m : M} (hg : ∀ a, a ∈ L → R.Wp (g (r a) m) (fun o m' => o = f a ∧ m' = m) noX) (hT : V (.lst (acc ++ L.filterMap f)) m) : R.Wp (compGo g (L.map r) acc m) V noX := by
  induction L generalizing acc with
  | nil =>
    rw [List.filterMap_nil, List.append_nil] at hT
    exact hT
  | cons a L ih =>
    rw [List.map_cons, comp_cons]
    refine (hg a (.head _)).imp (fun o m' ho => ?_) (fun _ _ h => h)
    obtain ⟨rfl, rfl⟩ := ho
    refine ih (fun b hb => hg b (.tail _ hb)) ?_
    rw [List.append_assoc]
    cases h : f a with
    | none => simpa [List.filterMap_cons, h] using hT
    | some y => simpa [List.filterMap_cons, h] using hT
theorem comp_map {g : D → M → R (Option D)} {γ : Type} (r : γ → D) (f : γ → D) (L : List γ) {m : M} (hg : ∀ a, a ∈ L → R.Wp (g (r a) m) (fun o m' => o = some (f a) ∧ m' = m) noX) (hT : V (.lst (L.map f)) m) : R.Wp (compGo g (L.map r) [] m) V noX := by
  refine comp_fm r (fun a => some (f a)) L hg ?_
  rw [List.nil_append]
  have : L.filterMap (fun a => some (f a)) = L.map f := by
    induction L with
    | nil => rfl
    | cons a L ih => simp [List.filterMap_cons]
  rw [this]
  exact hT
theorem comp_filt {g : D → M → R (Option D)} {γ : Type} (r : γ → D) (p : γ → Bool) (f : γ → D) (L : List γ) {m : M} (hg : ∀ a, a ∈ L → R.Wp (g (r a) m) (fun o m' => o = (if p a then some (f a) else none) ∧ m' = m) noX) (hT : V (.lst ((L.filter p).map f)) m) : R.Wp (compGo g (L.map r) [] m) V noX := by
  refine comp_fm r (fun a => if p a then some (f a) else none) L hg ?_
  rw [List.nil_append]
  have : L.filterMap (fun a => if p a then some (f a) else none) = (L.filter p).map f := by
    clear hg hT
    induction L with
    | nil => rfl
    | cons a L ih => cases h : p a <;> simp [List.filterMap_cons, List.filter_cons, h, ih]
  rw [this]
  exact hT
/-! calls -/
def mkEnv (ds : List D) (n : Nat) : En := ds.map (fun d => some (.val d)) ++ List.replicate n none
theorem mkEnv_c : mkEnv (d :: ds) n = some (.val d) :: mkEnv ds n := id rfl
theorem mkEnv_z : mkEnv [] 0 = [] := id rfl
theorem mkEnv_s : mkEnv [] (n + 1) = none :: mkEnv [] n := by simp [mkEnv, List.replicate_succ]
theorem mkEnv_eq {ds : List D} {n : Nat} : mkEnv ds n = ds.map (fun d => some (.val d)) ++ List.replicate n none := id rfl
/-- a run, never unfolded by chance -/
@[irreducible] def run (W : Nat) (P : Nat → Option Fn) (k : Nat) : CF := Rf.run W P k
theorem run_def {W : Nat} {P : Nat → Option Fn} {k : Nat} : run W P k = Rf.run W P k := by unfold run; rfl
theorem w_run {f : Fn} (h : P n = some f) : R.Wp (run W P (k + 1) n ds m) V X = (ds.length = f.params ∧ O.Wp (f.body.exs W (run W P k) (mkEnv ds (f.slots - ds.length)) m) (fun _ m' => V .non m') V X) := by
  rw [run_def, run_def, Rf.run, h]
  show R.Wp (Fn.go W (Rf.run W P k) f ds m) V X = _
  unfold Fn.go
  by_cases hl : ds.length = f.params
  · rw [if_pos hl, mkEnv_eq]
    simp only [hl, true_and]
    cases Ss.exs W (Rf.run W P k) f.body _ m <;> rfl
  · rw [if_neg hl]
    simp only [hl, false_and]
    rfl
theorem run_ok {r : R D} (h : R.Wp r (fun d' m' => d' = d ∧ m' = m) noX) : r = .ok d m := by
  obtain ⟨a, m', rfl, rfl, rfl⟩ := h.ok_of
  rfl
/-! operators -/
variable {p q : Int} {xs ys zs : List D} {s t : List Nat} {b1 b2 : Bool}
theorem o_add : optW (Op.app .add [.int p, .int q] m) f = f (.int (p + q)) := id rfl
theorem o_addS : optW (Op.app .add [.str s, .str t] m) f = (s.length + t.length ≤ LIM ∧ f (.str (s ++ t))) := by
  show optW (if _ then _ else _) f = _
  rw [optW_if]
theorem o_addL : optW (Op.app .add [.lst xs, .lst ys] m) f = (xs.length + ys.length ≤ LIM ∧ f (.lst (xs ++ ys))) := by
  show optW (if _ then _ else _) f = _
  rw [optW_if]
theorem o_addT : optW (Op.app .add [.tup xs, .tup ys] m) f = (xs.length + ys.length ≤ LIM ∧ f (.tup (xs ++ ys))) := by
  show optW (if _ then _ else _) f = _
  rw [optW_if]
theorem o_sub : optW (Op.app .sub [.int p, .int q] m) f = f (.int (p - q)) := id rfl
theorem o_mul : optW (Op.app .mul [.int p, .int q] m) f = ((B64 p || B64 q) = true ∧ f (.int (p * q))) := by
  show optW (if _ then _ else _) f = _
  rw [optW_if]
theorem o_mulL : optW (Op.app .mul [.lst xs, .int q] m) f = (small62 q = true ∧ xs.length * q.toNat ≤ LIM ∧ f (.lst (List.replicate q.toNat xs).flatten)) := by
  show optW (if _ then _ else _) f = _
  rw [optW_if]; simp only [Bool.and_eq_true, decide_eq_true_eq, and_assoc]
theorem o_mulT : optW (Op.app .mul [.tup xs, .int q] m) f = (2 ≤ q ∧ q ≤ 1000 ∧ 1 ≤ xs.length ∧ xs.length ≤ 1000 ∧ f (.tup (List.replicate q.toNat xs).flatten)) := by
  show optW (if _ then _ else _) f = _
  rw [optW_if]; simp only [Bool.and_eq_true, decide_eq_true_eq, and_assoc]
theorem o_fdiv : optW (Op.app .fdiv [.int p, .int q] m) f = (0 < q ∧ q.natAbs.log2 < 9000 ∧ f (.int (p / q))) := by
  show optW (if _ then _ else _) f = _
  rw [optW_if]; simp only [Bool.and_eq_true, decide_eq_true_eq, and_assoc]
theorem o_mod : optW (Op.app .mod [.int p, .int q] m) f = (0 < q ∧ f (.int (p % q))) := by
  show optW (if _ then _ else _) f = _
  rw [optW_if]
theorem o_pow : optW (Op.app .pow [.int p, .int q] m) f = (B64 p = true ∧ 0 ≤ q ∧ q ≤ 1000 ∧ f (.int (p ^ q.toNat))) := by
  show optW (if _ then _ else _) f = _
  rw [optW_if]; simp only [Bool.and_eq_true, decide_eq_true_eq, and_assoc]
theorem o_neg : optW (Op.app .neg [.int p] m) f = f (.int (-p)) := id rfl
theorem o_not : optW (Op.app .lnot [.bl b1] m) f = f (.bl (!b1)) := id rfl
theorem o_eqI : optW (Op.app .eq [.int p, .int q] m) f = f (.bl (decide (p = q))) := by
  show f (.bl (p == q)) = _
  rw [show (p == q) = decide (p = q) from rfl]
theorem o_neI : optW (Op.app .ne [.int p, .int q] m) f = f (.bl (!decide (p = q))) := by
  show f (.bl (!(p == q))) = _
  rw [show (p == q) = decide (p = q) from rfl]
theorem o_eqS : optW (Op.app .eq [.str s, .str t] m) f = f (.bl (decide (s = t))) := by
  show f (.bl (s == t)) = _
  congr 2
  exact Bool.eq_iff_iff.mpr (by simp)
theorem o_neS : optW (Op.app .ne [.str s, .str t] m) f = f (.bl (!decide (s = t))) := by
  show f (.bl (!(s == t))) = _
  congr 3
  exact Bool.eq_iff_iff.mpr (by simp)
theorem o_eqB : optW (Op.app .eq [.bl b1, .bl b2] m) f = f (.bl (b1 == b2)) := id rfl
theorem o_neB : optW (Op.app .ne [.bl b1, .bl b2] m) f = f (.bl (!(b1 == b2))) := id rfl
theorem o_eq : optW (Op.app .eq [x, y] m) f = (D.cmp x y = true ∧ f (.bl (D.eqv x y))) := by
  show optW (if _ then _ else _) f = _
  rw [optW_if]
theorem o_ne : optW (Op.app .ne [x, y] m) f = (D.cmp x y = true ∧ f (.bl (!D.eqv x y))) := by
  show optW (if _ then _ else _) f = _
  rw [optW_if]
theorem o_lt : optW (Op.app .lt [.int p, .int q] m) f = f (.bl (decide (p < q))) := id rfl
theorem o_le : optW (Op.app .le [.int p, .int q] m) f = f (.bl (decide (p ≤ q))) := id rfl
theorem o_gt : optW (Op.app .gt [.int p, .int q] m) f = f (.bl (decide (q < p))) := id rfl
theorem o_ge : optW (Op.app .ge [.int p, .int q] m) f = f (.bl (decide (q ≤ p))) := id rfl
theorem o_isN : optW (Op.app .isN [x] m) f = f (.bl x.isNon) := id rfl
theorem o_notN : optW (Op.app .notN [x] m) f = f (.bl (!x.isNon)) := id rfl
theorem o_isB : optW (Op.app .isB [.bl b1, .bl b2] m) f = f (.bl (b1 == b2)) := id rfl
theorem o_notB : optW (Op.app .notB [.bl b1, .bl b2] m) f = f (.bl (!(b1 == b2))) := id rfl
theorem o_inL : optW (Op.app .isin [x, .lst ys] m) f = (allCmp x ys = true ∧ f (.bl (anyEqv x ys))) := by
  have h : app_isin [x, .lst ys] = if allCmp x ys then some (.bl (anyEqv x ys)) else none := by cases x <;> rfl
  show optW (app_isin [x, .lst ys]) f = _
  rw [h, optW_if]
theorem o_inT : optW (Op.app .isin [x, .tup ys] m) f = (allCmp x ys = true ∧ f (.bl (anyEqv x ys))) := by
  have h : app_isin [x, .tup ys] = if allCmp x ys then some (.bl (anyEqv x ys)) else none := by cases x <;> rfl
  show optW (app_isin [x, .tup ys]) f = _
  rw [h, optW_if]
theorem o_ninL : optW (Op.app .notin [x, .lst ys] m) f = (allCmp x ys = true ∧ f (.bl (!anyEqv x ys))) := by
  have h : app_notin [x, .lst ys] = if allCmp x ys then some (.bl (!anyEqv x ys)) else none := by cases x <;> rfl
  show optW (app_notin [x, .lst ys]) f = _
  rw [h, optW_if]
theorem o_ninT : optW (Op.app .notin [x, .tup ys] m) f = (allCmp x ys = true ∧ f (.bl (!anyEqv x ys))) := by
  have h : app_notin [x, .tup ys] = if allCmp x ys then some (.bl (!anyEqv x ys)) else none := by cases x <;> rfl
  show optW (app_notin [x, .tup ys]) f = _
  rw [h, optW_if]
/-- a place in a list -/
def atW (xs : List D) (i : Int) (f : D → Prop) : Prop := optW ((ixN xs.length i).bind fun j => xs[j]?) f
theorem atW_eq : atW xs p f = optW ((ixN xs.length p).bind fun j => xs[j]?) f := id rfl
theorem at0 : atW (x :: xs) 0 f = f x := by
  unfold atW ixN
  rw [if_pos (by decide), if_pos (by simp)]
  rfl
theorem at1 : atW (x :: y :: xs) 1 f = f y := by
  unfold atW ixN
  rw [if_pos (by decide), if_pos (by simp; omega)]
  rfl
theorem at2 {z : D} : atW (x :: y :: z :: xs) 2 f = f z := by
  unfold atW ixN
  rw [if_pos (by decide), if_pos (by simp; omega)]
  rfl
theorem at3 {z u : D} : atW (x :: y :: z :: u :: xs) 3 f = f u := by
  unfold atW ixN
  rw [if_pos (by decide), if_pos (by simp; omega)]
  rfl
theorem at4 {z u v : D} : atW (x :: y :: z :: u :: v :: xs) 4 f = f v := by
  unfold atW ixN
  rw [if_pos (by decide), if_pos (by simp; omega)]
  rfl
theorem at_nat {n : Nat} (h : n < xs.length) : atW xs (n : Int) f = f xs[n] := by
  unfold atW ixN
  rw [if_pos (by omega), if_pos (by omega)]
  simp [optW, h]
theorem at_of {p : Int} (h0 : 0 ≤ p) (h : p < xs.length) (hf : ∀ hh : p.toNat < xs.length, f (xs[p.toNat]'hh)) : atW xs p f := by
  have : p = ((p.toNat : Nat) : Int) := by omega
  rw [this, at_nat (n := p.toNat) (by omega)]
  exact hf _
theorem at_get {p : Int} (h0 : 0 ≤ p) (h : p < xs.length) : ∃ x, x ∈ xs ∧ xs[p.toNat]? = some x ∧ ∀ f : D → Prop, atW xs p f = f x := by
  obtain ⟨q, rfl⟩ : ∃ q : Nat, p = q := ⟨p.toNat, by omega⟩
  have hh : q < xs.length := by omega
  exact ⟨xs[q], List.getElem_mem hh, List.getElem?_eq_getElem hh, fun f => at_nat hh⟩
theorem ixw_of {N : Nat} {p : Int} {g : Nat → Prop} (h0 : 0 ≤ p) (h : p < N) : optW (ixN N p) g = g p.toNat := by
  unfold ixN
  rw [if_pos h0, if_pos h]
  exact id rfl
theorem at_mem {p : Int} (h0 : 0 ≤ p) (h : p < xs.length) (hf : ∀ x, x ∈ xs → f x) : atW xs p f := at_of h0 h fun hh => hf _ (List.getElem_mem hh)
theorem o_ixL : optW (Op.app .ix [.lst xs, .int p] m) f = atW xs p f := id rfl
theorem o_ixT : optW (Op.app .ix [.tup xs, .int p] m) f = atW xs p f := id rfl
theorem o_ixM : optW (Op.app .ix [.mref n, .int p] m) f = memW m n fun xs => atW xs p f := by
  show optW (match m[n]? with | some (.lst xs) => _ | _ => none) f = memW m n _
  unfold memW
  rcases m[n]? with _ | ⟨xs⟩ <;> rfl
theorem o_ixC {ns : List Int} : optW (Op.app .ix [.scr ns, .int p] m) f = optW ((ixN ns.length p).bind fun j => ns[j]?.map D.int) f := id rfl
theorem o_slFL : optW (Op.app .slF [.lst xs, .int p] m) f = f (.lst (xs.drop (sIx xs.length p))) := id rfl
theorem o_slFT : optW (Op.app .slF [.tup xs, .int p] m) f = f (.tup (xs.drop (sIx xs.length p))) := id rfl
theorem o_slFS : optW (Op.app .slF [.str s, .int p] m) f = f (.str (s.drop (sIx s.length p))) := id rfl
theorem o_slTL : optW (Op.app .slT [.lst xs, .int p] m) f = f (.lst (xs.take (sIx xs.length p))) := id rfl
theorem o_slTT : optW (Op.app .slT [.tup xs, .int p] m) f = f (.tup (xs.take (sIx xs.length p))) := id rfl
theorem o_slTS : optW (Op.app .slT [.str s, .int p] m) f = f (.str (s.take (sIx s.length p))) := id rfl
theorem o_lenL : optW (Op.app .len [.lst xs] m) f = f (.int xs.length) := id rfl
theorem o_lenT : optW (Op.app .len [.tup xs] m) f = f (.int xs.length) := id rfl
theorem o_lenS : optW (Op.app .len [.str s] m) f = f (.int s.length) := id rfl
theorem o_lenC {ns : List Int} : optW (Op.app .len [.scr ns] m) f = f (.int ns.length) := id rfl
theorem o_intI : optW (Op.app .int [.int p] m) f = f (.int p) := id rfl
theorem o_intB : optW (Op.app .int [.bl b1] m) f = f (.int (if b1 then 1 else 0)) := id rfl
theorem o_min2 : optW (Op.app .min2 [.int p, .int q] m) f = f (.int (min p q)) := by
  show f (.int (if q < p then q else p)) = _
  congr 2
  omega
theorem o_max2 : optW (Op.app .max2 [.int p, .int q] m) f = f (.int (max p q)) := by
  show f (.int (if q > p then q else p)) = _
  congr 2
  omega
theorem ints_map {L : List Int} : ints? (L.map D.int) = some L := by
  induction L with
  | nil => rfl
  | cons a L ih => simp [ints?, ih]
theorem bools_map {L : List Bool} : bools? (L.map D.bl) = some L := by
  induction L with
  | nil => rfl
  | cons a L ih => simp [bools?, ih]
theorem strs_map {L : List (List Nat)} : strs? (L.map D.str) = some L := by
  induction L with
  | nil => rfl
  | cons a L ih => simp [strs?, ih]
theorem o_sum {L : List Int} : optW (Op.app .sum [.lst (L.map D.int)] m) f = f (.int L.sum) := by
  show optW (Option.map _ _) f = _
  rw [ints_map]; rfl
theorem o_all {L : List Bool} : optW (Op.app .all [.lst (L.map D.bl)] m) f = f (.bl (L.all id)) := by
  show optW (Option.map _ _) f = _
  rw [bools_map]; rfl
theorem o_listL : optW (Op.app .list [.lst xs] m) f = f (.lst xs) := id rfl
theorem o_listT : optW (Op.app .list [.tup xs] m) f = f (.lst xs) := id rfl
theorem o_tupleL : optW (Op.app .tuple [.lst xs] m) f = f (.tup xs) := id rfl
theorem o_tupleT : optW (Op.app .tuple [.tup xs] m) f = f (.tup xs) := id rfl
theorem o_tupR : optW (Op.app .tupR [.lst xs] m) f = f (.tup xs) := id rfl
theorem o_listR : optW (Op.app .listR [.lst xs] m) f = f (.lst xs) := id rfl
theorem o_isinst {ty : Ty} : optW (Op.app (.isinst ty) [x] m) f = optW (isTy ty x) fun b => f (.bl b) := by
  show optW (Option.map _ _) f = _
  cases isTy ty x <;> rfl
theorem ty_int_n : optW (Op.app (.isinst .int) [.non] m) f = f (.bl false) := id rfl
theorem ty_int_b : optW (Op.app (.isinst .int) [.bl b1] m) f = f (.bl true) := id rfl
theorem ty_int_i : optW (Op.app (.isinst .int) [.int p] m) f = f (.bl true) := id rfl
theorem ty_int_s : optW (Op.app (.isinst .int) [.str s] m) f = f (.bl false) := id rfl
theorem ty_int_t : optW (Op.app (.isinst .int) [.tup xs] m) f = f (.bl false) := id rfl
theorem ty_int_l : optW (Op.app (.isinst .int) [.lst xs] m) f = f (.bl false) := id rfl
theorem ty_bool_n : optW (Op.app (.isinst .bool) [.non] m) f = f (.bl false) := id rfl
theorem ty_bool_b : optW (Op.app (.isinst .bool) [.bl b1] m) f = f (.bl true) := id rfl
theorem ty_bool_i : optW (Op.app (.isinst .bool) [.int p] m) f = f (.bl false) := id rfl
theorem ty_bool_s : optW (Op.app (.isinst .bool) [.str s] m) f = f (.bl false) := id rfl
theorem ty_bool_t : optW (Op.app (.isinst .bool) [.tup xs] m) f = f (.bl false) := id rfl
theorem ty_bool_l : optW (Op.app (.isinst .bool) [.lst xs] m) f = f (.bl false) := id rfl
theorem ty_str_n : optW (Op.app (.isinst .str) [.non] m) f = f (.bl false) := id rfl
theorem ty_str_b : optW (Op.app (.isinst .str) [.bl b1] m) f = f (.bl false) := id rfl
theorem ty_str_i : optW (Op.app (.isinst .str) [.int p] m) f = f (.bl false) := id rfl
theorem ty_str_s : optW (Op.app (.isinst .str) [.str s] m) f = f (.bl true) := id rfl
theorem ty_str_t : optW (Op.app (.isinst .str) [.tup xs] m) f = f (.bl false) := id rfl
theorem ty_str_l : optW (Op.app (.isinst .str) [.lst xs] m) f = f (.bl false) := id rfl
theorem ty_tuple_n : optW (Op.app (.isinst .tuple) [.non] m) f = f (.bl false) := id rfl
theorem ty_tuple_b : optW (Op.app (.isinst .tuple) [.bl b1] m) f = f (.bl false) := id rfl
theorem ty_tuple_i : optW (Op.app (.isinst .tuple) [.int p] m) f = f (.bl false) := id rfl
theorem ty_tuple_s : optW (Op.app (.isinst .tuple) [.str s] m) f = f (.bl false) := id rfl
theorem ty_tuple_t : optW (Op.app (.isinst .tuple) [.tup xs] m) f = f (.bl true) := id rfl
theorem ty_tuple_l : optW (Op.app (.isinst .tuple) [.lst xs] m) f = f (.bl false) := id rfl
theorem ty_list_n : optW (Op.app (.isinst .list) [.non] m) f = f (.bl false) := id rfl
theorem ty_list_b : optW (Op.app (.isinst .list) [.bl b1] m) f = f (.bl false) := id rfl
theorem ty_list_i : optW (Op.app (.isinst .list) [.int p] m) f = f (.bl false) := id rfl
theorem ty_list_s : optW (Op.app (.isinst .list) [.str s] m) f = f (.bl false) := id rfl
theorem ty_list_t : optW (Op.app (.isinst .list) [.tup xs] m) f = f (.bl false) := id rfl
theorem ty_list_l : optW (Op.app (.isinst .list) [.lst xs] m) f = f (.bl true) := id rfl
theorem o_bool : optW (Op.app .bool [.bl b1] m) f = f (.bl b1) := id rfl
theorem o_tup : optW (Op.app .tup xs m) f = f (.tup xs) := id rfl
theorem o_lst : optW (Op.app .lst xs m) f = f (.lst xs) := id rfl
theorem o_range1 : optW (Op.app .range1 [.int q] m) f = (small62 q = true ∧ q.toNat ≤ LIM ∧ f (.lst (rangeL 0 q.toNat 1))) := by
  show optW (if _ then _ else _) f = _
  rw [optW_if]; simp only [Bool.and_eq_true, decide_eq_true_eq, and_assoc]
theorem o_range2 : optW (Op.app .range2 [.int p, .int q] m) f = (small62 p = true ∧ small62 q = true ∧ (q - p).toNat ≤ LIM ∧ f (.lst (rangeL p (q - p).toNat 1))) := by
  show optW (if _ then _ else _) f = _
  rw [optW_if]; simp only [Bool.and_eq_true, decide_eq_true_eq, and_assoc]
theorem o_range3 : optW (Op.app .range3 [.int p, .int q, .int (-1)] m) f = (small62 p = true ∧ small62 q = true ∧ (p - q).toNat ≤ LIM ∧ f (.lst (rangeL p (p - q).toNat (-1)))) := by
  show optW (if _ then _ else _) f = _
  rw [optW_if]; simp only [Bool.and_eq_true, decide_eq_true_eq, and_assoc, true_and]
theorem o_zipLL : optW (Op.app .zip [.lst xs, .lst ys] m) f = f (.lst (zipD xs ys)) := id rfl
theorem o_zipTT : optW (Op.app .zip [.tup xs, .tup ys] m) f = f (.lst (zipD xs ys)) := id rfl
theorem o_zipLT : optW (Op.app .zip [.lst xs, .tup ys] m) f = f (.lst (zipD xs ys)) := id rfl
theorem o_zipTL : optW (Op.app .zip [.tup xs, .lst ys] m) f = f (.lst (zipD xs ys)) := id rfl
theorem o_enumL : optW (Op.app .enum [.lst xs] m) f = f (.lst (enumD 0 xs)) := id rfl
theorem o_enumT : optW (Op.app .enum [.tup xs] m) f = f (.lst (enumD 0 xs)) := id rfl
theorem itw_l {g : List D → Prop} : optW (iter? (.lst xs)) g = g xs := id rfl
theorem itw_t {g : List D → Prop} : optW (iter? (.tup xs)) g = g xs := id rfl
theorem itw_s {g : List D → Prop} : optW (iter? (.str s)) g = g (s.map fun c => .str [c]) := id rfl
theorem eqv_lst_nil : D.eqv (.lst xs) (.lst []) = decide (xs = []) := by
  cases xs <;> simp [D.eqv, D.eqvs]
theorem eqv_tup_nil : D.eqv (.tup xs) (.tup []) = decide (xs = []) := by
  cases xs <;> simp [D.eqv, D.eqvs]
theorem cmp_lst_nil : D.cmp (.lst xs) (.lst []) = D.pures xs := by
  simp [D.cmp, D.pure, D.pures, D.depth, D.depths]
theorem cmp_tup_nil : D.cmp (.tup xs) (.tup []) = D.pures xs := by
  simp [D.cmp, D.pure, D.pures, D.depth, D.depths]
theorem o_eqL0 : optW (Op.app .eq [.lst xs, .lst []] m) f = (D.pures xs = true ∧ f (.bl (decide (xs = [])))) := by
  rw [o_eq, eqv_lst_nil, cmp_lst_nil]
theorem o_neL0 : optW (Op.app .ne [.lst xs, .lst []] m) f = (D.pures xs = true ∧ f (.bl (!decide (xs = [])))) := by
  rw [o_ne, eqv_lst_nil, cmp_lst_nil]
theorem o_eqT0 : optW (Op.app .eq [.tup xs, .tup []] m) f = (D.pures xs = true ∧ f (.bl (decide (xs = [])))) := by
  rw [o_eq, eqv_tup_nil, cmp_tup_nil]
theorem o_neT0 : optW (Op.app .ne [.tup xs, .tup []] m) f = (D.pures xs = true ∧ f (.bl (!decide (xs = [])))) := by
  rw [o_ne, eqv_tup_nil, cmp_tup_nil]
theorem pures_map {γ : Type} {g : γ → D} {L : List γ} (h : ∀ a, (g a).pure = true) : D.pures (L.map g) = true := by
  induction L with
  | nil => rfl
  | cons a L ih => rw [List.map_cons, D.pures, h, ih]; rfl
theorem dp_non : D.pure .non = true := id rfl
theorem dp_bl : D.pure (.bl b1) = true := id rfl
theorem dp_int : D.pure (.int p) = true := id rfl
theorem dp_str : D.pure (.str s) = true := id rfl
theorem dp_tup : D.pure (.tup xs) = D.pures xs := by rw [D.pure]
theorem dp_lst : D.pure (.lst xs) = D.pures xs := by rw [D.pure]
theorem dps_nil : D.pures [] = true := by rw [D.pures]
theorem dps_cons : D.pures (x :: xs) = (x.pure && D.pures xs) := by rw [D.pures]
theorem o_join {ss : List (List Nat)} (h : strs? xs = some ss) : optW (Op.app .join [.str s, .lst xs] m) f = ((ss.map List.length).sum + ss.length * s.length ≤ LIM ∧ f (.str (joinS s ss))) := by
  show optW ((strs? xs).bind _) f = _
  rw [h]
  exact optW_if
theorem o_split {c : Nat} : optW (Op.app .split [.str s, .str [c]] m) f = ((s.length + 2 ≤ LIM ∧ c < 128) ∧ f (.lst ((splitS c s).map D.str))) := optW_if
theorem o_fstrI : optW (Op.app .fstr1 [.int p] m) f = (0 ≤ p ∧ p < 100 ∧ f (.str (strI p))) := by
  show optW (if _ then _ else _) f = _
  rw [optW_if]; simp only [Bool.and_eq_true, decide_eq_true_eq, and_assoc]
theorem o_fstrS : optW (Op.app .fstr1 [.str s] m) f = f (.str s) := id rfl
theorem o_strI : optW (Op.app .str [.int p] m) f = (0 ≤ p ∧ p < 100 ∧ f (.str (strI p))) := by
  show optW (if _ then _ else _) f = _
  rw [optW_if]; simp only [Bool.and_eq_true, decide_eq_true_eq, and_assoc]
theorem o_intS {c : Nat} : optW (Op.app .int [.str [c]] m) f = ((48 ≤ c ∧ c ≤ 57) ∧ f (.int ((c : Int) - 48))) := optW_if
theorem o_inS {c : Nat} : optW (Op.app .isin [.str [c], .str s] m) f = f (.bl (decide (c ∈ s))) := id rfl
theorem o_ninS {c : Nat} : optW (Op.app .notin [.str [c], .str s] m) f = f (.bl (!decide (c ∈ s))) := id rfl
theorem o_ixS0 {c : Nat} : optW (Op.app .ix [.str (c :: s), .int 0] m) f = f (.str [c]) := by
  show optW ((ixN _ _).bind _) f = _
  unfold ixN
  rw [if_pos (by decide), if_pos (by simp)]
  exact id rfl
theorem o_ixS1 {c d : Nat} : optW (Op.app .ix [.str (c :: d :: s), .int 1] m) f = f (.str [d]) := by
  show optW ((ixN _ _).bind _) f = _
  unfold ixN
  rw [if_pos (by decide), if_pos (by simp; omega)]
  exact id rfl
theorem o_sortset {L : List Int} : optW (Op.app .sortset [.tup (L.map D.int)] m) f = ((L.length ≤ 1000 ∧ (sortU L).length < 64) ∧ f (.lst ((sortU L).map D.int))) := by
  show optW ((ints? _).bind _) f = _
  rw [ints_map]
  exact optW_if
theorem o_sorted {L : List Int} : optW (Op.app .sorted [.lst (L.map D.int)] m) f = (L.length < 64 ∧ f (.lst ((sortI L).map D.int))) := by
  show optW ((ints? _).bind _) f = _
  rw [ints_map]
  exact optW_if
theorem lim_le : (n ≤ LIM) = (n ≤ 16777216) := id rfl
theorem lim_lt : (n < LIM) = (n < 16777216) := id rfl
theorem non_n : D.isNon .non = true := id rfl
theorem non_b : D.isNon (.bl b1) = false := id rfl
theorem non_i : D.isNon (.int p) = false := id rfl
theorem non_s : D.isNon (.str s) = false := id rfl
theorem non_t : D.isNon (.tup xs) = false := id rfl
theorem non_l : D.isNon (.lst xs) = false := id rfl
theorem bq_tt : (true == true) = true := id rfl
theorem bq_tf : (true == false) = false := id rfl
theorem bq_ft : (false == true) = false := id rfl
theorem bq_ff : (false == false) = true := id rfl
theorem lg2 : ((2 : Int).natAbs.log2 < 9000) = True := by decide
theorem lg11 : ((11 : Int).natAbs.log2 < 9000) = True := by decide
theorem iter_l : iter? (.lst xs) = some xs := id rfl
theorem iter_t : iter? (.tup xs) = some xs := id rfl
theorem iter_s : iter? (.str s) = some (s.map fun c => .str [c]) := id rfl
end
end Rw

namespace Cr
open Rf
/-- is_int -/
def c0 : Rf.Ss := (.cons (.ret (.and (.op (.isinst .int) (.cons (.var 0) .nil)) (.and (.op .lnot (.cons (.op (.isinst .bool) (.cons (.var 0) .nil)) .nil)) (.chain .le .le (.var 1) (.var 0) (.var 2))))) .nil)
/-- is_right_plan -/
def c1 : Rf.Ss := (.cons (.ifs (.or (.op .lnot (.cons (.op (.isinst .tuple) (.cons (.var 0) .nil)) .nil)) (.or (.op .ne (.cons (.op .len (.cons (.var 0) .nil)) (.cons (.con (.int 3)) .nil))) (.op .lnot (.cons (.call 0 (.cons (.op .ix (.cons (.var 0) (.cons (.con (.int 0)) .nil))) (.cons (.con (.int 2)) (.cons (.con (.int 8)) .nil)))) .nil)))) (.cons (.ret (.con (.bl false))) .nil) .nil) (.cons (.ret (.and (.call 0 (.cons (.op .ix (.cons (.var 0) (.cons (.con (.int 2)) .nil))) (.cons (.con (.int 1)) (.cons (.op .sub (.cons (.op .ix (.cons (.var 0) (.cons (.con (.int 0)) .nil))) (.cons (.con (.int 1)) .nil))) .nil)))) (.call 0 (.cons (.op .ix (.cons (.var 0) (.cons (.con (.int 1)) .nil))) (.cons (.con (.int 1)) (.cons (.op .ix (.cons (.var 0) (.cons (.con (.int 2)) .nil))) .nil)))))) .nil))
/-- greatest -/
def c2 : Rf.Ss := (.cons (.ret (.op .sum (.cons (.comp (.op .min2 (.cons (.var 1) (.cons (.op .mul (.cons (.var 2) (.cons (.op .sub (.cons (.op .ix (.cons (.var 0) (.cons (.con (.int 2)) .nil))) (.cons (.var 3) .nil))) .nil))) .nil))) (.nm 3) (.op .range1 (.cons (.op .ix (.cons (.var 0) (.cons (.con (.int 1)) .nil))) .nil)) (.con (.bl true)) [3]) .nil))) .nil)
/-- hold_for -/
def c3 : Rf.Ss := (.cons (.set (.tp [(.nm 3), (.nm 4)]) (.op .tup (.cons (.con (.int 0)) (.cons (.op .mul (.cons (.var 2) (.cons (.op .ix (.cons (.var 0) (.cons (.con (.int 2)) .nil))) .nil))) .nil)))) (.cons (.ifs (.op .lt (.cons (.call 2 (.cons (.var 0) (.cons (.var 4) (.cons (.var 2) .nil)))) (.cons (.var 1) .nil))) (.cons (.ret (.con .non)) .nil) .nil) (.cons (.whil (.op .lt (.cons (.var 3) (.cons (.var 4) .nil))) (.cons (.set (.nm 5) (.op .fdiv (.cons (.op .add (.cons (.var 3) (.cons (.var 4) .nil))) (.cons (.con (.int 2)) .nil)))) (.cons (.ifs (.op .ge (.cons (.call 2 (.cons (.var 0) (.cons (.var 5) (.cons (.var 2) .nil)))) (.cons (.var 1) .nil))) (.cons (.set (.nm 4) (.var 5)) .nil) (.cons (.set (.nm 3) (.op .add (.cons (.var 5) (.cons (.con (.int 1)) .nil)))) .nil)) .nil))) (.cons (.ret (.var 3)) .nil))))
/-- send_for -/
def c4 : Rf.Ss := (.cons (.set (.tp [(.nm 3), (.nm 4)]) (.op .tup (.cons (.con (.int 0)) (.cons (.var 2) .nil)))) (.cons (.ifs (.op .lt (.cons (.call 2 (.cons (.var 0) (.cons (.var 2) (.cons (.var 4) .nil)))) (.cons (.var 1) .nil))) (.cons (.ret (.con .non)) .nil) .nil) (.cons (.whil (.op .lt (.cons (.var 3) (.cons (.var 4) .nil))) (.cons (.set (.nm 5) (.op .fdiv (.cons (.op .add (.cons (.var 3) (.cons (.var 4) .nil))) (.cons (.con (.int 2)) .nil)))) (.cons (.ifs (.op .ge (.cons (.call 2 (.cons (.var 0) (.cons (.var 2) (.cons (.var 5) .nil)))) (.cons (.var 1) .nil))) (.cons (.set (.nm 4) (.var 5)) .nil) (.cons (.set (.nm 3) (.op .add (.cons (.var 5) (.cons (.con (.int 1)) .nil)))) .nil)) .nil))) (.cons (.ret (.var 3)) .nil))))
/-- lowest -/
def c5 : Rf.Ss := (.cons (.set (.tp [(.nm 2), (.nm 3)]) (.op .tup (.cons (.var 0) (.cons (.var 1) .nil)))) (.cons (.whil (.op .ne (.cons (.var 3) (.cons (.con (.int 0)) .nil))) (.cons (.set (.tp [(.nm 2), (.nm 3)]) (.op .tup (.cons (.var 3) (.cons (.op .mod (.cons (.var 2) (.cons (.var 3) .nil))) .nil)))) .nil)) (.cons (.ret (.op .tup (.cons (.op .fdiv (.cons (.var 0) (.cons (.var 2) .nil))) (.cons (.op .fdiv (.cons (.var 1) (.cons (.var 2) .nil))) .nil)))) .nil)))
/-- need_plan -/
def c6 : Rf.Ss := (.cons (.ifs (.op .lnot (.cons (.call 1 (.cons (.var 0) .nil)) .nil)) (.cons (.raise 1) .nil) .nil) .nil)
/-- need_hold -/
def c7 : Rf.Ss := (.cons (.ifs (.op .lnot (.cons (.call 0 (.cons (.var 0) (.cons (.con (.int 0)) (.cons (.con (.int 1000000000000000000000000000000)) .nil)))) .nil)) (.cons (.raise 2) .nil) .nil) .nil)
/-- need_send -/
def c8 : Rf.Ss := (.cons (.ifs (.op .lnot (.cons (.call 0 (.cons (.var 0) (.cons (.con (.int 0)) (.cons (.con (.int 1000000000000000000000000000000)) .nil)))) .nil)) (.cons (.raise 3) .nil) .nil) .nil)
/-- need_file -/
def c9 : Rf.Ss := (.cons (.ifs (.op .lnot (.cons (.call 0 (.cons (.var 0) (.cons (.con (.int 0)) (.cons (.con (.int 100000000000000000000000000000000)) .nil)))) .nil)) (.cons (.raise 4) .nil) .nil) .nil)
/-- is_plan -/
def c10 : Rf.Ss := (.cons (.ret (.call 1 (.cons (.var 0) .nil))) .nil)
/-- greatest_file -/
def c11 : Rf.Ss := (.cons (.ex (.call 6 (.cons (.var 0) .nil))) (.cons (.ex (.call 7 (.cons (.var 1) .nil))) (.cons (.ex (.call 8 (.cons (.var 2) .nil))) (.cons (.ret (.call 2 (.cons (.var 0) (.cons (.var 1) (.cons (.var 2) .nil))))) .nil))))
/-- least_hold -/
def c12 : Rf.Ss := (.cons (.ex (.call 6 (.cons (.var 0) .nil))) (.cons (.ex (.call 9 (.cons (.var 1) .nil))) (.cons (.ex (.call 8 (.cons (.var 2) .nil))) (.cons (.ret (.call 3 (.cons (.var 0) (.cons (.var 1) (.cons (.var 2) .nil))))) .nil))))
/-- least_send -/
def c13 : Rf.Ss := (.cons (.ex (.call 6 (.cons (.var 0) .nil))) (.cons (.ex (.call 9 (.cons (.var 1) .nil))) (.cons (.ex (.call 7 (.cons (.var 2) .nil))) (.cons (.ret (.call 4 (.cons (.var 0) (.cons (.var 1) (.cons (.var 2) .nil))))) .nil))))
/-- corners -/
def c14 : Rf.Ss := (.cons (.ex (.call 6 (.cons (.var 0) .nil))) (.cons (.own 1 (.op .lst .nil)) (.cons (.fors (.nm 2) (.op .range3 (.cons (.op .sub (.cons (.op .ix (.cons (.var 0) (.cons (.con (.int 1)) .nil))) (.cons (.con (.int 1)) .nil))) (.cons (.op .neg (.cons (.con (.int 1)) .nil)) (.cons (.op .neg (.cons (.con (.int 1)) .nil)) .nil)))) (.cons (.set (.nm 3) (.op .sub (.cons (.op .ix (.cons (.var 0) (.cons (.con (.int 2)) .nil))) (.cons (.var 2) .nil)))) (.cons (.set (.nm 4) (.call 2 (.cons (.var 0) (.cons (.var 3) (.cons (.con (.int 1)) .nil))))) (.cons (.append 1 (.op .tup (.cons (.call 5 (.cons (.var 3) (.cons (.var 4) .nil))) (.cons (.call 5 (.cons (.con (.int 1)) (.cons (.var 4) .nil))) .nil)))) .nil)))) (.cons (.freeze 1) (.cons (.ret (.var 1)) .nil)))))
/-- _law_source -/
def c15 : Rf.Ss := (.cons (.set (.nm 2) (.con (.int 0))) (.cons (.ifs (.op .gt (.cons (.op .len (.cons (.var 0) .nil)) (.cons (.var 1) .nil))) (.cons (.set (.nm 2) (.op .int (.cons (.op .ix (.cons (.var 0) (.cons (.var 1) .nil))) .nil))) .nil) .nil) (.cons (.set (.nm 3) (.op .mod (.cons (.op .add (.cons (.op .add (.cons (.op .mul (.cons (.var 2) (.cons (.con (.int 16807)) .nil))) (.cons (.op .mul (.cons (.con (.int 60919)) (.cons (.var 1) .nil))) .nil))) (.cons (.con (.int 31)) .nil))) (.cons (.con (.int 2147481173)) .nil)))) (.cons (.set (.nm 3) (.op .add (.cons (.op .add (.cons (.op .mod (.cons (.op .mul (.cons (.var 3) (.cons (.var 3) .nil))) (.cons (.con (.int 2147481151)) .nil))) (.cons (.op .mul (.cons (.con (.int 2)) (.cons (.var 1) .nil))) .nil))) (.cons (.con (.int 5)) .nil)))) (.cons (.ret (.newM (.cons (.ite (.op .ge (.cons (.var 2) (.cons (.op .pow (.cons (.con (.int 10)) (.cons (.con (.int 18)) .nil))) .nil))) (.var 2) (.con (.int 0))) (.cons (.var 3) .nil)))) .nil)))))
/-- _law_pick -/
def c16 : Rf.Ss := (.cons (.ifs (.op .gt (.cons (.op .ix (.cons (.var 0) (.cons (.con (.int 0)) .nil))) (.cons (.con (.int 0)) .nil))) (.cons (.set (.nm 2) (.op .mod (.cons (.op .int (.cons (.op .ix (.cons (.var 0) (.cons (.con (.int 0)) .nil))) .nil)) (.cons (.var 1) .nil)))) (.cons (.msetIx (.var 0) (.con (.int 0)) (.op .fdiv (.cons (.op .int (.cons (.op .ix (.cons (.var 0) (.cons (.con (.int 0)) .nil))) .nil)) (.cons (.var 1) .nil)))) (.cons (.ret (.var 2)) .nil))) .nil) (.cons (.msetIx (.var 0) (.con (.int 1)) (.op .mod (.cons (.op .int (.cons (.op .add (.cons (.op .mul (.cons (.op .ix (.cons (.var 0) (.cons (.con (.int 1)) .nil))) (.cons (.con (.int 44497)) .nil))) (.cons (.con (.int 9973)) .nil))) .nil)) (.cons (.con (.int 2147483647)) .nil)))) (.cons (.ret (.op .mod (.cons (.op .fdiv (.cons (.op .mod (.cons (.op .int (.cons (.op .mul (.cons (.op .ix (.cons (.var 0) (.cons (.con (.int 1)) .nil))) (.cons (.op .ix (.cons (.var 0) (.cons (.con (.int 1)) .nil))) .nil))) .nil)) (.cons (.con (.int 2147483399)) .nil))) (.cons (.con (.int 11)) .nil))) (.cons (.var 1) .nil)))) .nil)))
/-- _law_chosen -/
def c17 : Rf.Ss := (.cons (.ret (.op .ix (.cons (.var 1) (.cons (.call 16 (.cons (.var 0) (.cons (.op .len (.cons (.var 1) .nil)) .nil))) .nil)))) .nil)
/-- _law_is_bool -/
def c18 : Rf.Ss := (.cons (.ret (.and (.op (.isinst .bool) (.cons (.var 0) .nil)) (.op .eq (.cons (.var 0) (.cons (.var 1) .nil))))) .nil)
/-- _law_whole -/
def c19 : Rf.Ss := (.cons (.ret (.and (.op (.isinst .int) (.cons (.var 0) .nil)) (.and (.op .lnot (.cons (.op (.isinst .bool) (.cons (.var 0) .nil)) .nil)) (.chain .le .le (.var 1) (.var 0) (.var 2))))) .nil)
/-- _law_by_three -/
def c20 : Rf.Ss := (.cons (.ret (.refused (.callv (.var 0) (.cons (.var 1) (.cons (.var 2) (.cons (.var 3) .nil)))))) .nil)
/-- _law_any_value -/
def c22 : Rf.Ss := (.cons (.set (.nm 2) (.op .lst (.cons (.con .non) (.cons (.con (.bl true)) (.cons (.con (.bl false)) (.cons (.con (.int 0)) (.cons (.con (.int 1)) (.cons (.con (.int 2)) (.cons (.con (.int 7)) (.cons (.op .neg (.cons (.con (.int 3)) .nil)) (.cons (.op .pow (.cons (.con (.int 10)) (.cons (.con (.int 30)) .nil))) .nil))))))))))) (.cons (.set (.nm 2) (.op .add (.cons (.var 2) (.cons (.op .lst (.cons (.con (.str [])) (.cons (.con (.str [116, 97, 108, 107])) (.cons (.con (.str [48, 58, 32, 49])) (.cons (.op .tup .nil) (.cons (.op .lst .nil) (.cons (.op .tup (.cons (.con (.int 4)) (.cons (.con (.int 2)) (.cons (.con (.int 3)) .nil)))) (.cons (.op .tup (.cons (.con (.int 0)) .nil)) (.cons (.op .tup (.cons (.op .tup (.cons (.con (.int 0)) (.cons (.op .tup (.cons (.con (.int 1)) (.cons (.con (.int 2)) (.cons (.con (.int 3)) .nil)))) .nil))) .nil)) (.cons (.op .tup (.cons (.con (.int 1)) (.cons (.con (.int 1)) .nil))) .nil)))))))))) .nil)))) (.cons (.set (.nm 3) (.call 16 (.cons (.var 0) (.cons (.con (.int 8)) .nil)))) (.cons (.ifs (.or (.op .lt (.cons (.var 1) (.cons (.con (.int 1)) .nil))) (.op .lt (.cons (.var 3) (.cons (.con (.int 5)) .nil)))) (.cons (.ret (.call 17 (.cons (.var 0) (.cons (.var 2) .nil)))) .nil) .nil) (.cons (.set (.nm 4) (.comp (.call 22 (.cons (.var 0) (.cons (.op .sub (.cons (.var 1) (.cons (.con (.int 1)) .nil))) .nil))) (.nm 5) (.op .range1 (.cons (.call 16 (.cons (.var 0) (.cons (.con (.int 5)) .nil))) .nil)) (.con (.bl true)) [5])) (.cons (.ret (.ite (.op .eq (.cons (.var 3) (.cons (.con (.int 5)) .nil))) (.var 4) (.op .tuple (.cons (.var 4) .nil)))) .nil))))))
/-- _law_variant -/
def c23 : Rf.Ss := (.cons (.own 2 (.op .list (.cons (.var 1) .nil))) (.cons (.ifs (.op .eq (.cons (.bor 2) (.cons (.op .lst .nil) .nil))) (.cons (.ret (.op .tup (.cons (.call 22 (.cons (.var 0) (.cons (.con (.int 1)) .nil))) .nil))) .nil) .nil) (.cons (.set (.tp [(.nm 3), (.nm 4)]) (.op .tup (.cons (.call 16 (.cons (.var 0) (.cons (.op .len (.cons (.bor 2) .nil)) .nil))) (.cons (.call 16 (.cons (.var 0) (.cons (.con (.int 9)) .nil))) .nil)))) (.cons (.ifs (.and (.op (.isinst .tuple) (.cons (.op .ix (.cons (.bor 2) (.cons (.var 3) .nil))) .nil)) (.and (.op .ne (.cons (.op .ix (.cons (.bor 2) (.cons (.var 3) .nil))) (.cons (.op .tup .nil) .nil))) (.op .gt (.cons (.var 4) (.cons (.con (.int 2)) .nil))))) (.cons (.setIx 2 (.var 3) (.call 23 (.cons (.var 0) (.cons (.op .ix (.cons (.bor 2) (.cons (.var 3) .nil))) .nil)))) (.cons (.ret (.op .tuple (.cons (.bor 2) .nil))) .nil)) .nil) (.cons (.ifs (.op .eq (.cons (.var 4) (.cons (.con (.int 0)) .nil))) (.cons (.ret (.op .tuple (.cons (.op .add (.cons (.op .slT (.cons (.bor 2) (.cons (.var 3) .nil))) (.cons (.op .slF (.cons (.bor 2) (.cons (.op .add (.cons (.var 3) (.cons (.con (.int 1)) .nil))) .nil))) .nil))) .nil))) .nil) .nil) (.cons (.ifs (.op .eq (.cons (.var 4) (.cons (.con (.int 1)) .nil))) (.cons (.ret (.op .tuple (.cons (.op .add (.cons (.op .slT (.cons (.bor 2) (.cons (.op .add (.cons (.var 3) (.cons (.con (.int 1)) .nil))) .nil))) (.cons (.op .slF (.cons (.bor 2) (.cons (.var 3) .nil))) .nil))) .nil))) .nil) .nil) (.cons (.ifs (.op .eq (.cons (.var 4) (.cons (.con (.int 2)) .nil))) (.cons (.freeze 2) (.cons (.ret (.var 2)) .nil)) .nil) (.cons (.set (.nm 5) (.op .lst (.cons (.con .non) (.cons (.con (.bl true)) (.cons (.con (.int 0)) (.cons (.con (.int 1)) (.cons (.con (.int 2)) (.cons (.con (.int 3)) (.cons (.con (.int 4)) (.cons (.con (.int 5)) (.cons (.con (.int 8)) (.cons (.con (.int 9)) (.cons (.op .neg (.cons (.con (.int 1)) .nil)) (.cons (.con (.int 11)) (.cons (.con (.int 31)) (.cons (.con (.int 32)) (.cons (.con (.str [49])) (.cons (.con (.str [114, 111, 111, 109])) (.cons (.op .tup .nil) (.cons (.op .tup (.cons (.con (.int 0)) (.cons (.con (.int 1)) .nil))) (.cons (.op .lst (.cons (.con (.int 0)) .nil)) .nil))))))))))))))))))))) (.cons (.setIx 2 (.var 3) (.call 17 (.cons (.var 0) (.cons (.var 5) .nil)))) (.cons (.ret (.op .tuple (.cons (.bor 2) .nil))) .nil))))))))))
/-- _law_is_plan -/
def c25 : Rf.Ss := (.cons (.ifs (.or (.op .lnot (.cons (.op (.isinst .tuple) (.cons (.var 0) .nil)) .nil)) (.op .ne (.cons (.op .len (.cons (.var 0) .nil)) (.cons (.con (.int 3)) .nil)))) (.cons (.ret (.con (.bl false))) .nil) .nil) (.cons (.ifs (.op .ne (.cons (.comp (.var 1) (.nm 1) (.var 0) (.op .lnot (.cons (.call 19 (.cons (.var 1) (.cons (.con (.int 1)) (.cons (.con (.int 8)) .nil)))) .nil)) [1]) (.cons (.op .lst .nil) .nil))) (.cons (.ret (.con (.bl false))) .nil) .nil) (.cons (.ret (.chain .le .lt (.op .ix (.cons (.var 0) (.cons (.con (.int 1)) .nil))) (.op .ix (.cons (.var 0) (.cons (.con (.int 2)) .nil))) (.op .ix (.cons (.var 0) (.cons (.con (.int 0)) .nil))))) .nil)))
/-- _law_plan -/
def c26 : Rf.Ss := (.cons (.set (.nm 2) (.op .add (.cons (.con (.int 2)) (.cons (.call 16 (.cons (.var 0) (.cons (.op .sub (.cons (.var 1) (.cons (.con (.int 1)) .nil))) .nil))) .nil)))) (.cons (.set (.nm 3) (.op .add (.cons (.con (.int 1)) (.cons (.call 16 (.cons (.var 0) (.cons (.op .sub (.cons (.var 2) (.cons (.con (.int 1)) .nil))) .nil))) .nil)))) (.cons (.ret (.op .tup (.cons (.var 2) (.cons (.op .add (.cons (.con (.int 1)) (.cons (.call 16 (.cons (.var 0) (.cons (.var 3) .nil))) .nil))) (.cons (.var 3) .nil))))) .nil)))
/-- _law_greatest -/
def c27 : Rf.Ss := (.cons (.set (.nm 3) (.con (.int 0))) (.cons (.fors (.nm 4) (.op .range2 (.cons (.op .add (.cons (.op .sub (.cons (.op .ix (.cons (.var 0) (.cons (.con (.int 2)) .nil))) (.cons (.op .ix (.cons (.var 0) (.cons (.con (.int 1)) .nil))) .nil))) (.cons (.con (.int 1)) .nil))) (.cons (.op .add (.cons (.op .ix (.cons (.var 0) (.cons (.con (.int 2)) .nil))) (.cons (.con (.int 1)) .nil))) .nil))) (.cons (.set (.nm 3) (.op .add (.cons (.var 3) (.cons (.op .min2 (.cons (.var 1) (.cons (.op .mul (.cons (.var 2) (.cons (.var 4) .nil))) .nil))) .nil)))) .nil)) (.cons (.ret (.var 3)) .nil)))
/-- _law_amount -/
def c28 : Rf.Ss := (.cons (.ret (.call 17 (.cons (.var 0) (.cons (.op .lst (.cons (.con (.int 0)) (.cons (.con (.int 1)) (.cons (.var 1) (.cons (.call 16 (.cons (.var 0) (.cons (.op .add (.cons (.var 1) (.cons (.con (.int 1)) .nil))) .nil))) (.cons (.call 16 (.cons (.var 0) (.cons (.op .add (.cons (.var 1) (.cons (.con (.int 1)) .nil))) .nil))) .nil)))))) .nil)))) .nil)
/-- _law_right -/
def c29 : Rf.Ss := (.cons (.set (.nm 1) (.call 25 (.cons (.var 0) .nil))) (.cons (.ifs (.op .lnot (.cons (.call 18 (.cons (.call 10 (.cons (.var 0) .nil)) (.cons (.var 1) .nil))) .nil)) (.cons (.ret (.con (.bl false))) .nil) .nil) (.cons (.ifs (.var 1) (.cons (.ret (.call 31 (.cons (.var 0) .nil))) .nil) .nil) (.cons (.set (.nm 2) (.comp (.call 20 (.cons (.var 3) (.cons (.var 0) (.cons (.con .non) (.cons (.con .non) .nil))))) (.nm 3) (.op .tup (.cons (.con (.fn 11)) (.cons (.con (.fn 12)) (.cons (.con (.fn 13)) .nil)))) (.con (.bl true)) [3])) (.cons (.ret (.op .eq (.cons (.op .add (.cons (.var 2) (.cons (.op .lst (.cons (.refused (.call 14 (.cons (.var 0) .nil))) .nil)) .nil))) (.cons (.op .mul (.cons (.op .lst (.cons (.con (.str [112, 108, 97, 110])) .nil)) (.cons (.con (.int 4)) .nil))) .nil)))) .nil)))))
/-- _law_is_ratio -/
def c30 : Rf.Ss := (.cons (.ifs (.or (.op .lnot (.cons (.op (.isinst .tuple) (.cons (.var 0) .nil)) .nil)) (.or (.op .ne (.cons (.op .len (.cons (.var 0) .nil)) (.cons (.con (.int 2)) .nil))) (.op .ne (.cons (.op .mul (.cons (.op .ix (.cons (.var 0) (.cons (.con (.int 0)) .nil))) (.cons (.var 2) .nil))) (.cons (.op .mul (.cons (.op .ix (.cons (.var 0) (.cons (.con (.int 1)) .nil))) (.cons (.var 1) .nil))) .nil))))) (.cons (.ret (.con (.bl false))) .nil) .nil) (.cons (.ifs (.op .ne (.cons (.comp (.var 3) (.nm 3) (.op .range2 (.cons (.con (.int 2)) (.cons (.con (.int 60)) .nil))) (.and (.op .eq (.cons (.op .mod (.cons (.op .ix (.cons (.var 0) (.cons (.con (.int 0)) .nil))) (.cons (.var 3) .nil))) (.cons (.con (.int 0)) .nil))) (.op .eq (.cons (.op .mod (.cons (.op .ix (.cons (.var 0) (.cons (.con (.int 1)) .nil))) (.cons (.var 3) .nil))) (.cons (.con (.int 0)) .nil)))) [3]) (.cons (.op .lst .nil) .nil))) (.cons (.ret (.con (.bl false))) .nil) .nil) (.cons (.ret (.op .gt (.cons (.op .ix (.cons (.var 0) (.cons (.con (.int 1)) .nil))) (.cons (.con (.int 0)) .nil)))) .nil)))
/-- _law_corners_right -/
def c31 : Rf.Ss := (.cons (.set (.nm 1) (.call 14 (.cons (.var 0) .nil))) (.cons (.ifs (.or (.op .lnot (.cons (.op (.isinst .list) (.cons (.var 1) .nil)) .nil)) (.op .ne (.cons (.op .len (.cons (.var 1) .nil)) (.cons (.op .ix (.cons (.var 0) (.cons (.con (.int 1)) .nil))) .nil)))) (.cons (.ret (.con (.bl false))) .nil) .nil) (.cons (.fors (.tp [(.nm 2), (.nm 3)]) (.op .zip (.cons (.op .range3 (.cons (.op .sub (.cons (.op .ix (.cons (.var 0) (.cons (.con (.int 1)) .nil))) (.cons (.con (.int 1)) .nil))) (.cons (.op .neg (.cons (.con (.int 1)) .nil)) (.cons (.op .neg (.cons (.con (.int 1)) .nil)) .nil)))) (.cons (.var 1) .nil))) (.cons (.set (.nm 4) (.op .sub (.cons (.op .ix (.cons (.var 0) (.cons (.con (.int 2)) .nil))) (.cons (.var 2) .nil)))) (.cons (.set (.nm 5) (.call 27 (.cons (.var 0) (.cons (.var 4) (.cons (.con (.int 1)) .nil))))) (.cons (.ifs (.or (.op .lnot (.cons (.call 30 (.cons (.op .ix (.cons (.var 3) (.cons (.con (.int 0)) .nil))) (.cons (.var 4) (.cons (.var 5) .nil)))) .nil)) (.op .lnot (.cons (.call 30 (.cons (.op .ix (.cons (.var 3) (.cons (.con (.int 1)) .nil))) (.cons (.con (.int 1)) (.cons (.var 5) .nil)))) .nil))) (.cons (.ret (.con (.bl false))) .nil) .nil) .nil)))) (.cons (.ret (.con (.bl true))) .nil))))
/-- _law_line_right -/
def c32 : Rf.Ss := (.cons (.set (.nm 2) (.call 17 (.cons (.var 0) (.cons (.op .lst (.cons (.con (.int 9)) (.cons (.con (.int 1000)) (.cons (.op .pow (.cons (.con (.int 10)) (.cons (.con (.int 30)) .nil))) .nil)))) .nil)))) (.cons (.set (.tp [(.nm 3), (.nm 4)]) (.op .tup (.cons (.call 28 (.cons (.var 0) (.cons (.var 2) .nil))) (.cons (.call 28 (.cons (.var 0) (.cons (.var 2) .nil))) .nil)))) (.cons (.set (.nm 5) (.call 27 (.cons (.var 1) (.cons (.var 3) (.cons (.var 4) .nil))))) (.cons (.ifs (.op .ne (.cons (.call 11 (.cons (.var 1) (.cons (.var 3) (.cons (.var 4) .nil)))) (.cons (.var 5) .nil))) (.cons (.ret (.con (.bl false))) .nil) .nil) (.cons (.set (.nm 6) (.op .lst (.cons (.con (.int 0)) (.cons (.con (.int 1)) (.cons (.var 5) .nil))))) (.cons (.fors (.nm 7) (.op .add (.cons (.var 6) (.cons (.op .lst (.cons (.op .add (.cons (.var 5) (.cons (.con (.int 1)) .nil))) (.cons (.op .max2 (.cons (.con (.int 0)) (.cons (.op .sub (.cons (.var 5) (.cons (.con (.int 1)) .nil))) .nil))) (.cons (.call 16 (.cons (.var 0) (.cons (.op .add (.cons (.con (.int 1)) (.cons (.op .min2 (.cons (.op .pow (.cons (.con (.int 10)) (.cons (.con (.int 32)) .nil))) (.cons (.op .mul (.cons (.con (.int 8)) (.cons (.var 2) .nil))) .nil))) .nil))) .nil))) .nil)))) .nil))) (.cons (.set (.nm 8) (.call 12 (.cons (.var 1) (.cons (.var 7) (.cons (.var 4) .nil))))) (.cons (.set (.nm 9) (.call 27 (.cons (.var 1) (.cons (.op .mul (.cons (.var 4) (.cons (.op .ix (.cons (.var 1) (.cons (.con (.int 2)) .nil))) .nil))) (.cons (.var 4) .nil))))) (.cons (.ifs (.op .ne (.cons (.op .isN (.cons (.var 8) .nil)) (.cons (.op .lt (.cons (.var 9) (.cons (.var 7) .nil))) .nil))) (.cons (.ret (.con (.bl false))) .nil) .nil) (.cons (.ifs (.and (.op .notN (.cons (.var 8) .nil)) (.op .lt (.cons (.call 27 (.cons (.var 1) (.cons (.var 8) (.cons (.var 4) .nil)))) (.cons (.var 7) .nil)))) (.cons (.ret (.con (.bl false))) .nil) .nil) (.cons (.ifs (.and (.op .notN (.cons (.var 8) .nil)) (.and (.op .ne (.cons (.var 8) (.cons (.con (.int 0)) .nil))) (.or (.op .lt (.cons (.var 8) (.cons (.con (.int 0)) .nil))) (.op .ge (.cons (.call 27 (.cons (.var 1) (.cons (.op .sub (.cons (.var 8) (.cons (.con (.int 1)) .nil))) (.cons (.var 4) .nil)))) (.cons (.var 7) .nil)))))) (.cons (.ret (.con (.bl false))) .nil) .nil) (.cons (.set (.nm 8) (.call 13 (.cons (.var 1) (.cons (.var 7) (.cons (.var 3) .nil))))) (.cons (.ifs (.op .ne (.cons (.op .isN (.cons (.var 8) .nil)) (.cons (.op .lt (.cons (.op .mul (.cons (.var 3) (.cons (.op .ix (.cons (.var 1) (.cons (.con (.int 1)) .nil))) .nil))) (.cons (.var 7) .nil))) .nil))) (.cons (.ret (.con (.bl false))) .nil) .nil) (.cons (.ifs (.and (.op .notN (.cons (.var 8) .nil)) (.op .lt (.cons (.call 27 (.cons (.var 1) (.cons (.var 3) (.cons (.var 8) .nil)))) (.cons (.var 7) .nil)))) (.cons (.ret (.con (.bl false))) .nil) .nil) (.cons (.ifs (.and (.op .notN (.cons (.var 8) .nil)) (.and (.op .ne (.cons (.var 8) (.cons (.con (.int 0)) .nil))) (.or (.op .lt (.cons (.var 8) (.cons (.con (.int 0)) .nil))) (.op .ge (.cons (.call 27 (.cons (.var 1) (.cons (.var 3) (.cons (.op .sub (.cons (.var 8) (.cons (.con (.int 1)) .nil))) .nil)))) (.cons (.var 7) .nil)))))) (.cons (.ret (.con (.bl false))) .nil) .nil) .nil)))))))))) (.cons (.ret (.con (.bl true))) .nil)))))))
/-- _law_refusals -/
def c33 : Rf.Ss := (.cons (.fors (.nm 1) (.op .lst (.cons (.con .non) (.cons (.op .neg (.cons (.con (.int 1)) .nil)) (.cons (.op .add (.cons (.op .pow (.cons (.con (.int 10)) (.cons (.con (.int 30)) .nil))) (.cons (.con (.int 1)) .nil))) (.cons (.con (.bl true)) (.cons (.con (.str [51])) .nil)))))) (.cons (.ifs (.op .ne (.cons (.call 20 (.cons (.con (.fn 11)) (.cons (.var 0) (.cons (.var 1) (.cons (.con .non) .nil))))) (.cons (.con (.str [104, 111, 108, 100])) .nil))) (.cons (.ret (.con (.bl false))) .nil) .nil) (.cons (.ifs (.op .ne (.cons (.call 20 (.cons (.con (.fn 11)) (.cons (.var 0) (.cons (.con (.int 1)) (.cons (.var 1) .nil))))) (.cons (.con (.str [115, 101, 110, 100])) .nil))) (.cons (.ret (.con (.bl false))) .nil) .nil) (.cons (.ifs (.op .ne (.cons (.call 20 (.cons (.con (.fn 12)) (.cons (.var 0) (.cons (.con (.int 1)) (.cons (.var 1) .nil))))) (.cons (.con (.str [115, 101, 110, 100])) .nil))) (.cons (.ret (.con (.bl false))) .nil) .nil) (.cons (.ifs (.op .ne (.cons (.call 20 (.cons (.con (.fn 13)) (.cons (.var 0) (.cons (.con (.int 1)) (.cons (.var 1) .nil))))) (.cons (.con (.str [104, 111, 108, 100])) .nil))) (.cons (.ret (.con (.bl false))) .nil) .nil) .nil))))) (.cons (.fors (.nm 1) (.op .lst (.cons (.con .non) (.cons (.op .neg (.cons (.con (.int 1)) .nil)) (.cons (.op .add (.cons (.op .pow (.cons (.con (.int 10)) (.cons (.con (.int 32)) .nil))) (.cons (.con (.int 1)) .nil))) (.cons (.con (.bl true)) (.cons (.con (.str [51])) .nil)))))) (.cons (.ifs (.op .ne (.cons (.comp (.call 20 (.cons (.var 2) (.cons (.var 0) (.cons (.var 1) (.cons (.con .non) .nil))))) (.nm 2) (.op .tup (.cons (.con (.fn 12)) (.cons (.con (.fn 13)) .nil))) (.con (.bl true)) [2]) (.cons (.op .mul (.cons (.op .lst (.cons (.con (.str [102, 105, 108, 101])) .nil)) (.cons (.con (.int 2)) .nil))) .nil))) (.cons (.ret (.con (.bl false))) .nil) .nil) .nil)) (.cons (.ret (.con (.bl true))) .nil)))
/-- _law_written -/
def c34 : Rf.Ss := (.cons (.set (.tp [(.nm 0), (.nm 1)]) (.op .tup (.cons (.op .tup (.cons (.con (.int 4)) (.cons (.con (.int 2)) (.cons (.con (.int 3)) .nil)))) (.cons (.op .tup (.cons (.con (.int 5)) (.cons (.con (.int 3)) (.cons (.con (.int 4)) .nil)))) .nil)))) (.cons (.set (.nm 2) (.op .lst (.cons (.var 0) (.cons (.var 1) (.cons (.op .tup (.cons (.con (.int 2)) (.cons (.con (.int 1)) (.cons (.con (.int 1)) .nil)))) (.cons (.op .tup (.cons (.con (.int 8)) (.cons (.con (.int 7)) (.cons (.con (.int 7)) .nil)))) (.cons (.op .tup (.cons (.con (.int 8)) (.cons (.con (.int 1)) (.cons (.con (.int 1)) .nil)))) .nil))))))) (.cons (.set (.nm 3) (.op .lst (.cons (.op .tup (.cons (.con (.int 4)) (.cons (.con (.int 3)) (.cons (.con (.int 2)) .nil)))) (.cons (.op .tup (.cons (.con (.int 4)) (.cons (.con (.int 2)) (.cons (.con (.int 4)) .nil)))) (.cons (.op .tup (.cons (.con (.int 9)) (.cons (.con (.int 2)) (.cons (.con (.int 3)) .nil)))) (.cons (.op .tup (.cons (.con (.int 1)) (.cons (.con (.int 1)) (.cons (.con (.int 1)) .nil)))) (.cons (.op .tup (.cons (.con (.int 4)) (.cons (.con (.int 0)) (.cons (.con (.int 3)) .nil)))) (.cons (.op .lst (.cons (.con (.int 4)) (.cons (.con (.int 2)) (.cons (.con (.int 3)) .nil)))) .nil)))))))) (.cons (.set (.nm 3) (.op .add (.cons (.var 3) (.cons (.op .lst (.cons (.op .tup (.cons (.con (.int 4)) (.cons (.con (.int 2)) .nil))) (.cons (.op .tup (.cons (.con (.int 4)) (.cons (.con (.int 2)) (.cons (.con (.int 3)) (.cons (.con (.int 1)) .nil))))) (.cons (.op .tup (.cons (.con (.bl true)) (.cons (.con (.int 1)) (.cons (.con (.int 1)) .nil)))) (.cons (.con .non) (.cons (.op .tup (.cons (.con (.int 4)) (.cons (.con (.bl true)) (.cons (.con (.int 3)) .nil)))) (.cons (.op .tup (.cons (.con (.int 4)) (.cons (.con (.int 2)) (.cons (.con (.str [51])) .nil)))) .nil))))))) .nil)))) (.cons (.ifs (.op .ne (.cons (.comp (.var 8) (.nm 8) (.var 2) (.op .notB (.cons (.call 10 (.cons (.var 8) .nil)) (.cons (.con (.bl true)) .nil))) [8]) (.cons (.op .lst .nil) .nil))) (.cons (.ret (.con (.bl false))) .nil) .nil) (.cons (.ifs (.op .ne (.cons (.comp (.var 8) (.nm 8) (.var 3) (.call 10 (.cons (.var 8) .nil)) [8]) (.cons (.op .lst .nil) .nil))) (.cons (.ret (.con (.bl false))) .nil) .nil) (.cons (.set (.nm 4) (.comp (.call 11 (.cons (.var 0) (.cons (.var 6) (.cons (.var 7) .nil)))) (.tp [(.nm 6), (.nm 7)]) (.op .lst (.cons (.op .tup (.cons (.con (.int 3)) (.cons (.con (.int 1)) .nil))) (.cons (.op .tup (.cons (.con (.int 2)) (.cons (.con (.int 1)) .nil))) (.cons (.op .tup (.cons (.con (.int 10)) (.cons (.con (.int 1)) .nil))) (.cons (.op .tup (.cons (.con (.int 0)) (.cons (.con (.int 5)) .nil))) (.cons (.op .tup (.cons (.con (.int 5)) (.cons (.con (.int 0)) .nil))) (.cons (.op .tup (.cons (.con (.int 7)) (.cons (.con (.int 3)) .nil))) .nil))))))) (.con (.bl true)) [6, 7])) (.cons (.ifs (.or (.op .ne (.cons (.var 4) (.cons (.op .lst (.cons (.con (.int 5)) (.cons (.con (.int 4)) (.cons (.con (.int 5)) (.cons (.con (.int 0)) (.cons (.con (.int 0)) (.cons (.con (.int 13)) .nil))))))) .nil))) (.op .ne (.cons (.call 11 (.cons (.var 1) (.cons (.con (.int 2)) (.cons (.con (.int 1)) .nil)))) (.cons (.con (.int 6)) .nil)))) (.cons (.ret (.con (.bl false))) .nil) .nil) (.cons (.ifs (.op .ne (.cons (.call 11 (.cons (.var 1) (.cons (.op .pow (.cons (.con (.int 10)) (.cons (.con (.int 30)) .nil))) (.cons (.op .pow (.cons (.con (.int 10)) (.cons (.con (.int 29)) .nil))) .nil)))) (.cons (.op .mul (.cons (.con (.int 9)) (.cons (.op .pow (.cons (.con (.int 10)) (.cons (.con (.int 29)) .nil))) .nil))) .nil))) (.cons (.ret (.con (.bl false))) .nil) .nil) (.cons (.set (.nm 5) (.op .lst (.cons (.op .tup (.cons (.con (.int 5)) (.cons (.con (.int 1)) .nil))) (.cons (.op .tup (.cons (.con (.int 4)) (.cons (.con (.int 1)) .nil))) (.cons (.op .tup (.cons (.con (.int 6)) (.cons (.con (.int 1)) .nil))) (.cons (.op .tup (.cons (.con (.int 6)) (.cons (.con (.int 2)) .nil))) (.cons (.op .tup (.cons (.con (.int 0)) (.cons (.con (.int 0)) .nil))) (.cons (.op .tup (.cons (.con (.int 1)) (.cons (.con (.int 0)) .nil))) .nil)))))))) (.cons (.ifs (.op .ne (.cons (.comp (.call 12 (.cons (.var 0) (.cons (.var 9) (.cons (.var 7) .nil)))) (.tp [(.nm 9), (.nm 7)]) (.var 5) (.con (.bl true)) [9, 7]) (.cons (.op .lst (.cons (.con (.int 3)) (.cons (.con (.int 2)) (.cons (.con .non) (.cons (.con (.int 3)) (.cons (.con (.int 0)) (.cons (.con .non) .nil))))))) .nil))) (.cons (.ret (.con (.bl false))) .nil) .nil) (.cons (.set (.nm 5) (.op .lst (.cons (.op .tup (.cons (.con (.int 5)) (.cons (.con (.int 3)) .nil))) (.cons (.op .tup (.cons (.con (.int 4)) (.cons (.con (.int 2)) .nil))) (.cons (.op .tup (.cons (.con (.int 7)) (.cons (.con (.int 3)) .nil))) (.cons (.op .tup (.cons (.con (.int 0)) (.cons (.con (.int 0)) .nil))) (.cons (.op .tup (.cons (.con (.int 1)) (.cons (.con (.int 0)) .nil))) (.cons (.op .tup (.cons (.con (.int 6)) (.cons (.con (.int 3)) .nil))) .nil)))))))) (.cons (.ifs (.op .ne (.cons (.comp (.call 13 (.cons (.var 0) (.cons (.var 9) (.cons (.var 6) .nil)))) (.tp [(.nm 9), (.nm 6)]) (.var 5) (.con (.bl true)) [9, 6]) (.cons (.op .lst (.cons (.con (.int 1)) (.cons (.con (.int 1)) (.cons (.con .non) (.cons (.con (.int 0)) (.cons (.con .non) (.cons (.con (.int 2)) .nil))))))) .nil))) (.cons (.ret (.con (.bl false))) .nil) .nil) (.cons (.ifs (.or (.op .ne (.cons (.call 13 (.cons (.var 1) (.cons (.con (.int 10)) (.cons (.con (.int 4)) .nil)))) (.cons (.con (.int 2)) .nil))) (.op .ne (.cons (.call 12 (.cons (.op .tup (.cons (.con (.int 8)) (.cons (.con (.int 7)) (.cons (.con (.int 7)) .nil)))) (.cons (.op .mul (.cons (.con (.int 28)) (.cons (.op .pow (.cons (.con (.int 10)) (.cons (.con (.int 30)) .nil))) .nil))) (.cons (.op .pow (.cons (.con (.int 10)) (.cons (.con (.int 30)) .nil))) .nil)))) (.cons (.op .mul (.cons (.con (.int 7)) (.cons (.op .pow (.cons (.con (.int 10)) (.cons (.con (.int 30)) .nil))) .nil))) .nil)))) (.cons (.ret (.con (.bl false))) .nil) .nil) (.cons (.ifs (.or (.op .ne (.cons (.call 14 (.cons (.var 0) .nil)) (.cons (.op .lst (.cons (.op .tup (.cons (.op .tup (.cons (.con (.int 1)) (.cons (.con (.int 2)) .nil))) (.cons (.op .tup (.cons (.con (.int 1)) (.cons (.con (.int 4)) .nil))) .nil))) (.cons (.op .tup (.cons (.op .tup (.cons (.con (.int 3)) (.cons (.con (.int 5)) .nil))) (.cons (.op .tup (.cons (.con (.int 1)) (.cons (.con (.int 5)) .nil))) .nil))) .nil))) .nil))) (.op .ne (.cons (.call 14 (.cons (.op .tup (.cons (.con (.int 3)) (.cons (.con (.int 1)) (.cons (.con (.int 2)) .nil)))) .nil)) (.cons (.op .lst (.cons (.op .tup (.cons (.op .tup (.cons (.con (.int 1)) (.cons (.con (.int 1)) .nil))) (.cons (.op .tup (.cons (.con (.int 1)) (.cons (.con (.int 2)) .nil))) .nil))) .nil)) .nil)))) (.cons (.ret (.con (.bl false))) .nil) .nil) (.cons (.ret (.op .eq (.cons (.call 14 (.cons (.var 1) .nil)) (.cons (.op .lst (.cons (.op .tup (.cons (.op .tup (.cons (.con (.int 1)) (.cons (.con (.int 3)) .nil))) (.cons (.op .tup (.cons (.con (.int 1)) (.cons (.con (.int 6)) .nil))) .nil))) (.cons (.op .tup (.cons (.op .tup (.cons (.con (.int 3)) (.cons (.con (.int 8)) .nil))) (.cons (.op .tup (.cons (.con (.int 1)) (.cons (.con (.int 8)) .nil))) .nil))) (.cons (.op .tup (.cons (.op .tup (.cons (.con (.int 4)) (.cons (.con (.int 9)) .nil))) (.cons (.op .tup (.cons (.con (.int 1)) (.cons (.con (.int 9)) .nil))) .nil))) .nil)))) .nil)))) .nil))))))))))))))))
/-- law -/
def c35 : Rf.Ss := (.cons (.fors (.nm 1) (.op .range1 (.cons (.op .max2 (.cons (.con (.int 6)) (.cons (.op .min2 (.cons (.con (.int 14)) (.cons (.op .len (.cons (.var 0) .nil)) .nil))) .nil))) .nil)) (.cons (.set (.nm 2) (.call 15 (.cons (.var 0) (.cons (.var 1) .nil)))) (.cons (.set (.nm 3) (.call 26 (.cons (.var 2) (.cons (.con (.int 8)) .nil)))) (.cons (.fors (.nm 4) (.op .add (.cons (.op .lst (.cons (.var 3) (.cons (.op .list (.cons (.var 3) .nil)) .nil))) (.cons (.comp (.call 22 (.cons (.var 2) (.cons (.con (.int 2)) .nil))) (.nm 5) (.op .range1 (.cons (.con (.int 4)) .nil)) (.con (.bl true)) [5]) .nil))) (.cons (.ifs (.op .lnot (.cons (.call 29 (.cons (.var 4) .nil)) .nil)) (.cons (.ret (.con (.bl false))) .nil) .nil) .nil)) (.cons (.fors (.nm 5) (.op .range1 (.cons (.con (.int 4)) .nil)) (.cons (.ifs (.or (.op .lnot (.cons (.call 29 (.cons (.call 23 (.cons (.var 2) (.cons (.var 3) .nil))) .nil)) .nil)) (.op .lnot (.cons (.call 32 (.cons (.var 2) (.cons (.var 3) .nil))) .nil))) (.cons (.ret (.con (.bl false))) .nil) .nil) .nil)) (.cons (.ifs (.op .lnot (.cons (.call 33 (.cons (.var 3) .nil)) .nil)) (.cons (.ret (.con (.bl false))) .nil) .nil) .nil)))))) (.cons (.ret (.call 34 .nil)) .nil))
/-- _law_by_two -/
def c47 : Rf.Ss := (.cons (.ret (.refused (.callv (.var 0) (.cons (.var 1) (.cons (.var 2) .nil))))) .nil)
/-- are_facts -/
def c152 : Rf.Ss := (.cons (.ifs (.or (.op .lnot (.cons (.op (.isinst .tuple) (.cons (.var 0) .nil)) .nil)) (.op .gt (.cons (.op .len (.cons (.var 0) .nil)) (.cons (.con (.int 6)) .nil)))) (.cons (.ret (.con (.bl false))) .nil) .nil) (.cons (.fors (.nm 1) (.var 0) (.cons (.ifs (.or (.op .lnot (.cons (.op (.isinst .tuple) (.cons (.var 1) .nil)) .nil)) (.op .ne (.cons (.op .len (.cons (.var 1) .nil)) (.cons (.con (.int 2)) .nil)))) (.cons (.ret (.con (.bl false))) .nil) .nil) (.cons (.ifs (.or (.op .lnot (.cons (.call 0 (.cons (.op .ix (.cons (.var 1) (.cons (.con (.int 0)) .nil))) (.cons (.con (.int 0)) (.cons (.con (.int 1000000000000000000000000000000)) .nil)))) .nil)) (.op .lnot (.cons (.call 0 (.cons (.op .ix (.cons (.var 1) (.cons (.con (.int 1)) .nil))) (.cons (.con (.int 0)) (.cons (.con (.int 100000000000000000000000000000000)) .nil)))) .nil))) (.cons (.ret (.con (.bl false))) .nil) .nil) .nil))) (.cons (.ret (.con (.bl true))) .nil)))
/-- first_above -/
def c153 : Rf.Ss := (.cons (.set (.tp [(.nm 3), (.nm 4)]) (.op .tup (.cons (.con (.int 0)) (.cons (.op .add (.cons (.con (.int 1000000000000000000000000000000)) (.cons (.con (.int 1)) .nil))) .nil)))) (.cons (.whil (.op .lt (.cons (.var 3) (.cons (.var 4) .nil))) (.cons (.set (.nm 5) (.op .fdiv (.cons (.op .add (.cons (.var 3) (.cons (.var 4) .nil))) (.cons (.con (.int 2)) .nil)))) (.cons (.ifs (.op .ge (.cons (.call 2 (.cons (.var 0) (.cons (.var 1) (.cons (.var 5) .nil)))) (.cons (.var 2) .nil))) (.cons (.set (.nm 4) (.var 5)) .nil) (.cons (.set (.nm 3) (.op .add (.cons (.var 5) (.cons (.con (.int 1)) .nil)))) .nil)) .nil))) (.cons (.ret (.var 3)) .nil)))
/-- send_told -/
def c154 : Rf.Ss := (.cons (.ex (.call 6 (.cons (.var 0) .nil))) (.cons (.ifs (.op .lnot (.cons (.call 152 (.cons (.var 1) .nil)) .nil)) (.cons (.raise 15) .nil) .nil) (.cons (.set (.tp [(.nm 2), (.nm 3)]) (.op .tup (.cons (.con (.int 0)) (.cons (.con (.int 1000000000000000000000000000000)) .nil)))) (.cons (.fors (.tp [(.nm 4), (.nm 5)]) (.var 1) (.cons (.set (.nm 2) (.op .max2 (.cons (.var 2) (.cons (.call 153 (.cons (.var 0) (.cons (.var 4) (.cons (.var 5) .nil)))) .nil)))) (.cons (.set (.nm 3) (.op .min2 (.cons (.var 3) (.cons (.op .sub (.cons (.call 153 (.cons (.var 0) (.cons (.var 4) (.cons (.op .add (.cons (.var 5) (.cons (.con (.int 1)) .nil))) .nil)))) (.cons (.con (.int 1)) .nil))) .nil)))) .nil))) (.cons (.ret (.ite (.op .le (.cons (.var 2) (.cons (.var 3) .nil))) (.op .tup (.cons (.var 2) (.cons (.var 3) .nil))) (.con .non))) .nil)))))
/-- _law_goes -/
def c155 : Rf.Ss := (.cons (.ret (.op .eq (.cons (.comp (.con (.int 1)) (.tp [(.nm 3), (.nm 4)]) (.var 1) (.op .ne (.cons (.call 27 (.cons (.var 0) (.cons (.var 3) (.cons (.var 2) .nil)))) (.cons (.var 4) .nil))) [3, 4]) (.cons (.op .lst .nil) .nil)))) .nil)
/-- _law_facts -/
def c156 : Rf.Ss := (.cons (.set (.nm 4) (.op .tup .nil)) (.cons (.fors (.nm 5) (.op .range1 (.cons (.call 16 (.cons (.var 0) (.cons (.con (.int 7)) .nil))) .nil)) (.cons (.set (.nm 6) (.call 28 (.cons (.var 0) (.cons (.var 2) .nil)))) (.cons (.set (.nm 7) (.op .add (.cons (.call 27 (.cons (.var 1) (.cons (.var 6) (.cons (.var 3) .nil)))) (.cons (.op .int (.cons (.op .eq (.cons (.call 16 (.cons (.var 0) (.cons (.con (.int 12)) .nil))) (.cons (.con (.int 0)) .nil))) .nil)) .nil)))) (.cons (.set (.nm 4) (.op .add (.cons (.var 4) (.cons (.op .tup (.cons (.op .tup (.cons (.var 6) (.cons (.var 7) .nil))) .nil)) .nil)))) .nil)))) (.cons (.ret (.var 4)) .nil)))
/-- _law_right -/
def c157 : Rf.Ss := (.cons (.set (.nm 3) (.call 156 (.cons (.var 0) (.cons (.var 1) (.cons (.var 2) (.cons (.call 16 (.cons (.var 0) (.cons (.op .add (.cons (.con (.int 1)) (.cons (.var 2) .nil))) .nil))) .nil)))))) (.cons (.set (.nm 4) (.call 154 (.cons (.var 1) (.cons (.var 3) .nil)))) (.cons (.ifs (.op .lt (.cons (.var 2) (.cons (.con (.int 100)) .nil))) (.cons (.set (.nm 5) (.comp (.var 6) (.nm 6) (.op .range1 (.cons (.con (.int 300)) .nil)) (.call 155 (.cons (.var 1) (.cons (.var 3) (.cons (.var 6) .nil)))) [6])) (.cons (.ifs (.op .ne (.cons (.op .isN (.cons (.var 4) .nil)) (.cons (.op .eq (.cons (.var 5) (.cons (.op .lst .nil) .nil))) .nil))) (.cons (.ret (.con (.bl false))) .nil) .nil) (.cons (.ifs (.and (.op .ne (.cons (.var 5) (.cons (.op .lst .nil) .nil))) (.or (.op .ne (.cons (.op .ix (.cons (.var 4) (.cons (.con (.int 0)) .nil))) (.cons (.op .ix (.cons (.var 5) (.cons (.con (.int 0)) .nil))) .nil))) (.and (.op .lt (.cons (.op .ix (.cons (.var 5) (.cons (.op .neg (.cons (.con (.int 1)) .nil)) .nil))) (.cons (.con (.int 299)) .nil))) (.op .ne (.cons (.op .ix (.cons (.var 4) (.cons (.con (.int 1)) .nil))) (.cons (.op .ix (.cons (.var 5) (.cons (.op .neg (.cons (.con (.int 1)) .nil)) .nil))) .nil)))))) (.cons (.ret (.con (.bl false))) .nil) .nil) .nil))) .nil) (.cons (.ifs (.op .isN (.cons (.var 4) .nil)) (.cons (.ret (.con (.bl true))) .nil) .nil) (.cons (.ifs (.or (.op .lnot (.cons (.op (.isinst .tuple) (.cons (.var 4) .nil)) .nil)) (.or (.op .ne (.cons (.op .len (.cons (.var 4) .nil)) (.cons (.con (.int 2)) .nil))) (.op .lnot (.cons (.chain3 .le .le .le (.con (.int 0)) (.op .ix (.cons (.var 4) (.cons (.con (.int 0)) .nil))) (.op .ix (.cons (.var 4) (.cons (.con (.int 1)) .nil))) (.op .pow (.cons (.con (.int 10)) (.cons (.con (.int 30)) .nil)))) .nil)))) (.cons (.ret (.con (.bl false))) .nil) .nil) (.cons (.fors (.nm 6) (.op .lst (.cons (.op .ix (.cons (.var 4) (.cons (.con (.int 0)) .nil))) (.cons (.op .ix (.cons (.var 4) (.cons (.con (.int 1)) .nil))) (.cons (.op .fdiv (.cons (.op .add (.cons (.op .ix (.cons (.var 4) (.cons (.con (.int 0)) .nil))) (.cons (.op .ix (.cons (.var 4) (.cons (.con (.int 1)) .nil))) .nil))) (.cons (.con (.int 2)) .nil))) .nil)))) (.cons (.ifs (.op .lnot (.cons (.call 155 (.cons (.var 1) (.cons (.var 3) (.cons (.var 6) .nil)))) .nil)) (.cons (.ret (.con (.bl false))) .nil) .nil) .nil)) (.cons (.ifs (.and (.op .gt (.cons (.op .ix (.cons (.var 4) (.cons (.con (.int 0)) .nil))) (.cons (.con (.int 0)) .nil))) (.call 155 (.cons (.var 1) (.cons (.var 3) (.cons (.op .sub (.cons (.op .ix (.cons (.var 4) (.cons (.con (.int 0)) .nil))) (.cons (.con (.int 1)) .nil))) .nil))))) (.cons (.ret (.con (.bl false))) .nil) .nil) (.cons (.ret (.or (.op .eq (.cons (.op .ix (.cons (.var 4) (.cons (.con (.int 1)) .nil))) (.cons (.op .pow (.cons (.con (.int 10)) (.cons (.con (.int 30)) .nil))) .nil))) (.op .lnot (.cons (.call 155 (.cons (.var 1) (.cons (.var 3) (.cons (.op .add (.cons (.op .ix (.cons (.var 4) (.cons (.con (.int 1)) .nil))) (.cons (.con (.int 1)) .nil))) .nil)))) .nil)))) .nil))))))))
/-- _law_refusals -/
def c158 : Rf.Ss := (.cons (.set (.nm 0) (.op .lst (.cons (.con .non) (.cons (.op .lst (.cons (.op .tup (.cons (.con (.int 3)) (.cons (.con (.int 5)) .nil))) .nil)) (.cons (.op .tup (.cons (.con (.int 3)) (.cons (.con (.int 5)) .nil))) (.cons (.op .mul (.cons (.op .tup (.cons (.op .tup (.cons (.con (.int 3)) (.cons (.con (.int 5)) .nil))) .nil)) (.cons (.con (.int 7)) .nil))) (.cons (.op .tup (.cons (.op .tup (.cons (.con (.int 3)) .nil)) .nil)) .nil))))))) (.cons (.set (.nm 0) (.op .add (.cons (.var 0) (.cons (.op .lst (.cons (.op .tup (.cons (.op .tup (.cons (.con (.int 3)) (.cons (.con (.int 5)) (.cons (.con (.int 1)) .nil)))) .nil)) (.cons (.op .tup (.cons (.op .tup (.cons (.op .neg (.cons (.con (.int 1)) .nil)) (.cons (.con (.int 5)) .nil))) .nil)) (.cons (.op .tup (.cons (.op .tup (.cons (.con (.int 3)) (.cons (.op .neg (.cons (.con (.int 1)) .nil)) .nil))) .nil)) (.cons (.op .tup (.cons (.op .tup (.cons (.op .add (.cons (.op .pow (.cons (.con (.int 10)) (.cons (.con (.int 30)) .nil))) (.cons (.con (.int 1)) .nil))) (.cons (.con (.int 5)) .nil))) .nil)) (.cons (.op .tup (.cons (.op .tup (.cons (.con (.int 3)) (.cons (.op .add (.cons (.op .pow (.cons (.con (.int 10)) (.cons (.con (.int 32)) .nil))) (.cons (.con (.int 1)) .nil))) .nil))) .nil)) .nil)))))) .nil)))) (.cons (.set (.nm 0) (.op .add (.cons (.var 0) (.cons (.op .lst (.cons (.op .tup (.cons (.op .tup (.cons (.con (.bl true)) (.cons (.con (.int 5)) .nil))) .nil)) (.cons (.op .tup (.cons (.op .tup (.cons (.con (.int 3)) (.cons (.con (.bl true)) .nil))) .nil)) (.cons (.op .tup (.cons (.con .non) .nil)) (.cons (.op .tup (.cons (.op .lst (.cons (.con (.int 3)) (.cons (.con (.int 5)) .nil))) .nil)) (.cons (.op .tup (.cons (.op .tup (.cons (.con (.str [51])) (.cons (.con (.int 5)) .nil))) .nil)) .nil)))))) .nil)))) (.cons (.ifs (.op .ne (.cons (.comp (.var 1) (.nm 1) (.var 0) (.op .ne (.cons (.call 47 (.cons (.con (.fn 154)) (.cons (.op .tup (.cons (.con (.int 4)) (.cons (.con (.int 2)) (.cons (.con (.int 3)) .nil)))) (.cons (.var 1) .nil)))) (.cons (.con (.str [102, 97, 99, 116, 115])) .nil))) [1]) (.cons (.op .lst .nil) .nil))) (.cons (.ret (.con (.bl false))) .nil) .nil) (.cons (.ret (.op .eq (.cons (.comp (.call 47 (.cons (.con (.fn 154)) (.cons (.var 1) (.cons (.con .non) .nil)))) (.nm 1) (.op .tup (.cons (.con .non) (.cons (.op .tup (.cons (.con (.int 4)) (.cons (.con (.int 3)) (.cons (.con (.int 2)) .nil)))) (.cons (.op .lst (.cons (.con (.int 4)) (.cons (.con (.int 2)) (.cons (.con (.int 3)) .nil)))) .nil)))) (.con (.bl true)) [1]) (.cons (.op .mul (.cons (.op .lst (.cons (.con (.str [112, 108, 97, 110])) .nil)) (.cons (.con (.int 3)) .nil))) .nil)))) .nil)))))
/-- _law_written -/
def c159 : Rf.Ss := (.cons (.set (.tp [(.nm 0), (.nm 1)]) (.op .tup (.cons (.op .tup (.cons (.con (.int 4)) (.cons (.con (.int 2)) (.cons (.con (.int 3)) .nil)))) (.cons (.op .pow (.cons (.con (.int 10)) (.cons (.con (.int 30)) .nil))) .nil)))) (.cons (.set (.nm 2) (.op .lst (.cons (.op .tup (.cons (.op .tup (.cons (.con (.int 3)) (.cons (.con (.int 5)) .nil))) .nil)) (.cons (.op .tup (.cons (.op .tup (.cons (.con (.int 3)) (.cons (.con (.int 6)) .nil))) .nil)) (.cons (.op .tup (.cons (.op .tup (.cons (.con (.int 2)) (.cons (.con (.int 4)) .nil))) (.cons (.op .tup (.cons (.con (.int 10)) (.cons (.con (.int 10)) .nil))) .nil))) (.cons (.op .tup .nil) (.cons (.op .tup (.cons (.op .tup (.cons (.con (.int 3)) (.cons (.con (.int 7)) .nil))) .nil)) (.cons (.op .tup (.cons (.op .tup (.cons (.con (.int 4)) (.cons (.con (.int 6)) .nil))) (.cons (.op .tup (.cons (.con (.int 4)) (.cons (.con (.int 7)) .nil))) .nil))) .nil)))))))) (.cons (.set (.nm 3) (.comp (.call 154 (.cons (.var 0) (.cons (.var 4) .nil))) (.nm 4) (.var 2) (.con (.bl true)) [4])) (.cons (.ifs (.op .ne (.cons (.var 3) (.cons (.op .lst (.cons (.op .tup (.cons (.con (.int 1)) (.cons (.con (.int 1)) .nil))) (.cons (.op .tup (.cons (.con (.int 2)) (.cons (.var 1) .nil))) (.cons (.op .tup (.cons (.con (.int 2)) (.cons (.con (.int 2)) .nil))) (.cons (.op .tup (.cons (.con (.int 0)) (.cons (.var 1) .nil))) (.cons (.con .non) (.cons (.con .non) .nil))))))) .nil))) (.cons (.ret (.con (.bl false))) .nil) .nil) (.cons (.ifs (.or (.op .ne (.cons (.call 154 (.cons (.var 0) (.cons (.op .tup (.cons (.op .tup (.cons (.con (.int 0)) (.cons (.con (.int 0)) .nil))) .nil)) .nil))) (.cons (.op .tup (.cons (.con (.int 0)) (.cons (.var 1) .nil))) .nil))) (.op .ne (.cons (.call 154 (.cons (.var 0) (.cons (.op .tup (.cons (.op .tup (.cons (.con (.int 5)) (.cons (.con (.int 0)) .nil))) .nil)) .nil))) (.cons (.op .tup (.cons (.con (.int 0)) (.cons (.con (.int 0)) .nil))) .nil)))) (.cons (.ret (.con (.bl false))) .nil) .nil) (.cons (.ifs (.op .ne (.cons (.call 154 (.cons (.var 0) (.cons (.op .tup (.cons (.op .tup (.cons (.con (.int 100)) (.cons (.con (.int 5)) .nil))) (.cons (.op .tup (.cons (.con (.int 2)) (.cons (.con (.int 4)) .nil))) .nil))) .nil))) (.cons (.op .tup (.cons (.con (.int 1)) (.cons (.con (.int 1)) .nil))) .nil))) (.cons (.ret (.con (.bl false))) .nil) .nil) (.cons (.ifs (.op .ne (.cons (.call 154 (.cons (.var 0) (.cons (.op .tup (.cons (.op .tup (.cons (.var 1) (.cons (.op .mul (.cons (.con (.int 2)) (.cons (.var 1) .nil))) .nil))) .nil)) .nil))) (.cons (.op .tup (.cons (.op .fdiv (.cons (.var 1) (.cons (.con (.int 2)) .nil))) (.cons (.var 1) .nil))) .nil))) (.cons (.ret (.con (.bl false))) .nil) .nil) (.cons (.ifs (.op .ne (.cons (.call 154 (.cons (.op .tup (.cons (.con (.int 2)) (.cons (.con (.int 1)) (.cons (.con (.int 1)) .nil)))) (.cons (.op .tup (.cons (.op .tup (.cons (.con (.int 7)) (.cons (.con (.int 3)) .nil))) .nil)) .nil))) (.cons (.op .tup (.cons (.con (.int 3)) (.cons (.con (.int 3)) .nil))) .nil))) (.cons (.ret (.con (.bl false))) .nil) .nil) (.cons (.ret (.and (.op .eq (.cons (.call 154 (.cons (.var 0) (.cons (.op .mul (.cons (.op .tup (.cons (.op .tup (.cons (.con (.int 3)) (.cons (.con (.int 6)) .nil))) .nil)) (.cons (.con (.int 6)) .nil))) .nil))) (.cons (.op .tup (.cons (.con (.int 2)) (.cons (.var 1) .nil))) .nil))) (.op .eq (.cons (.call 154 (.cons (.var 0) (.cons (.op .tup (.cons (.op .tup (.cons (.con (.int 10)) (.cons (.con (.int 10)) .nil))) (.cons (.op .tup (.cons (.con (.int 2)) (.cons (.con (.int 4)) .nil))) .nil))) .nil))) (.cons (.op .tup (.cons (.con (.int 2)) (.cons (.con (.int 2)) .nil))) .nil))))) .nil)))))))))
/-- law -/
def c160 : Rf.Ss := (.cons (.fors (.nm 1) (.op .range1 (.cons (.op .max2 (.cons (.con (.int 5)) (.cons (.op .min2 (.cons (.con (.int 12)) (.cons (.op .len (.cons (.var 0) .nil)) .nil))) .nil))) .nil)) (.cons (.set (.nm 2) (.call 15 (.cons (.var 0) (.cons (.var 1) .nil)))) (.cons (.set (.nm 3) (.call 26 (.cons (.var 2) (.cons (.con (.int 8)) .nil)))) (.cons (.fors (.nm 4) (.op .tup (.cons (.con (.int 9)) (.cons (.con (.int 30)) (.cons (.op .pow (.cons (.con (.int 10)) (.cons (.con (.int 30)) .nil))) .nil)))) (.cons (.ifs (.op .lnot (.cons (.call 157 (.cons (.var 2) (.cons (.var 3) (.cons (.var 4) .nil)))) .nil)) (.cons (.ret (.con (.bl false))) .nil) .nil) .nil)) .nil)))) (.cons (.ret (.and (.call 159 .nil) (.call 158 .nil))) .nil))
def G : Nat → Option Rf.Fn
  | 0 => some ⟨3, 3, c0⟩
  | 1 => some ⟨1, 1, c1⟩
  | 2 => some ⟨4, 3, c2⟩
  | 3 => some ⟨6, 3, c3⟩
  | 4 => some ⟨6, 3, c4⟩
  | 5 => some ⟨4, 2, c5⟩
  | 6 => some ⟨1, 1, c6⟩
  | 7 => some ⟨1, 1, c7⟩
  | 8 => some ⟨1, 1, c8⟩
  | 9 => some ⟨1, 1, c9⟩
  | 10 => some ⟨1, 1, c10⟩
  | 11 => some ⟨3, 3, c11⟩
  | 12 => some ⟨3, 3, c12⟩
  | 13 => some ⟨3, 3, c13⟩
  | 14 => some ⟨5, 1, c14⟩
  | 15 => some ⟨4, 2, c15⟩
  | 16 => some ⟨3, 2, c16⟩
  | 17 => some ⟨2, 2, c17⟩
  | 18 => some ⟨2, 2, c18⟩
  | 19 => some ⟨3, 3, c19⟩
  | 20 => some ⟨4, 4, c20⟩
  | 22 => some ⟨6, 2, c22⟩
  | 23 => some ⟨6, 2, c23⟩
  | 25 => some ⟨2, 1, c25⟩
  | 26 => some ⟨4, 2, c26⟩
  | 27 => some ⟨5, 3, c27⟩
  | 28 => some ⟨2, 2, c28⟩
  | 29 => some ⟨4, 1, c29⟩
  | 30 => some ⟨4, 3, c30⟩
  | 31 => some ⟨6, 1, c31⟩
  | 32 => some ⟨10, 2, c32⟩
  | 33 => some ⟨3, 1, c33⟩
  | 34 => some ⟨10, 0, c34⟩
  | 35 => some ⟨6, 1, c35⟩
  | 47 => some ⟨3, 3, c47⟩
  | 152 => some ⟨2, 1, c152⟩
  | 153 => some ⟨6, 3, c153⟩
  | 154 => some ⟨6, 2, c154⟩
  | 155 => some ⟨5, 3, c155⟩
  | 156 => some ⟨8, 4, c156⟩
  | 157 => some ⟨7, 3, c157⟩
  | 158 => some ⟨2, 0, c158⟩
  | 159 => some ⟨5, 0, c159⟩
  | 160 => some ⟨5, 1, c160⟩
  | _ => none
end Cr

namespace Rw
open Rf
local macro_rules
  | `(tactic| simp_arith [$as,*]) => `(tactic| simp only [↓w_ok, ↓w_exc, ↓w_bind, ↓w_toO, ↓w_obind, ↓w_ite, ↓w_oite, ↓optW_some, ↓optW_none, ↓blW_bl, ↓intW_i, ↓lstW_l, ↓vw0, ↓vwS, ↓bw0, ↓bw0o, ↓bw0l, ↓bwS, en_free0, en_free0v, en_free0o, en_freeS, ↓ownW0, ↓ownWS, en_setZ, en_setS, ↓w_var, ↓w_bor, ↓w_con, ↓w_op, ↓w_nil, ↓w_cons, ↓w_and, ↓w_or, ↓w_eite, ↓w_chain, ↓w_chain3, ↓w_slc, ↓isTyW_str, ↓w_meth, ↓strW_s, ↓w_js, ↓w_jsn, ↓w_jsc, ↓w_call, ↓w_callv, ↓w_newM, ↓w_comp, ↓w_one, ↓w_refused, ↓w_nm, ↓w_tp, ↓w_tp0, ↓w_tpS, ↓w_wipe0, ↓w_wipeS, vfAt0, vfAtS, vf0, vf1, ↓s_set, ↓s_own', ↓frzW0, ↓frzW0v, ↓frzWS, ↓s_frz, ↓s_setIx, ↓s_msetIx, ↓s_append, ↓s_pop, ↓s_ex, ↓s_if, ↓w_fone, ↓s_for, ↓s_forOwn, ↓s_while, ↓s_ret, ↓s_retN, ↓s_raise, ↓s_pass, ↓s_tryN, ↓ss_nil, ↓ss_cons, mkEnv_c, mkEnv_z, mkEnv_s, ↓o_add, ↓o_addS, ↓o_addL, ↓o_addT, ↓o_sub, ↓o_mul, ↓o_mulL, ↓o_mulT, ↓o_fdiv, ↓o_mod, ↓o_pow, ↓o_neg, ↓o_not, ↓o_split, ↓o_fstrI, ↓o_fstrS, ↓o_strI, ↓o_intS, ↓o_inS, ↓o_ninS, ↓o_ixS0, ↓o_ixS1, ↓o_sortset, ↓o_sorted, ↓o_eqI, ↓o_neI, ↓o_eqS, ↓o_neS, ↓o_eqB, ↓o_eqL0, ↓o_neL0, ↓o_eqT0, ↓o_neT0, ↓o_neB, ↓o_lt, ↓o_le, ↓o_gt, ↓o_ge, ↓o_isN, ↓o_notN, ↓o_isB, ↓o_notB, ↓o_inL, ↓o_inT, ↓o_ninL, ↓o_ninT, ↓at0, ↓at1, ↓at2, ↓at3, ↓at4, ↓o_ixL, ↓o_ixT, ↓o_ixM, ↓o_slFL, ↓o_slFT, ↓o_slFS, ↓o_slTL, ↓o_slTT, ↓o_slTS, ↓o_lenL, ↓o_lenT, ↓o_lenS, ↓o_lenC, ↓o_intI, ↓o_intB, ↓o_min2, ↓o_max2, ↓o_sum, ↓o_all, ↓o_listL, ↓o_listT, ↓o_tupleL, ↓o_tupleT, ↓o_tupR, ↓o_listR, ↓ty_int_n, ↓ty_int_b, ↓ty_int_i, ↓ty_int_s, ↓ty_int_t, ↓ty_int_l, ↓ty_bool_n, ↓ty_bool_b, ↓ty_bool_i, ↓ty_bool_s, ↓ty_bool_t, ↓ty_bool_l, ↓ty_str_n, ↓ty_str_b, ↓ty_str_i, ↓ty_str_s, ↓ty_str_t, ↓ty_str_l, ↓ty_tuple_n, ↓ty_tuple_b, ↓ty_tuple_i, ↓ty_tuple_s, ↓ty_tuple_t, ↓ty_tuple_l, ↓ty_list_n, ↓ty_list_b, ↓ty_list_i, ↓ty_list_s, ↓ty_list_t, ↓ty_list_l, ↓o_bool, ↓o_tup, ↓o_lst, ↓o_range1, ↓o_range2, ↓o_range3, ↓o_zipLL, ↓o_zipTT, ↓o_zipLT, ↓o_zipTL, ↓o_enumL, ↓o_enumT, dp_non, dp_bl, dp_int, dp_str, dp_tup, dp_lst, dps_nil, dps_cons, Bool.and_true, Bool.true_and, lim_le, lim_lt, lg2, lg11, ↓itw_l, ↓itw_t, ↓itw_s, non_n, non_b, non_i, non_s, non_t, non_l, bq_tt, bq_tf, bq_ft, bq_ff, true_and, and_true, if_true, if_false, reduceIte, Bool.not_true, Bool.not_false, Bool.false_eq_true, reduceCtorEq, List.length_cons, List.length_nil, Int.cast_ofNat_Int, Nat.reduceAdd, Nat.reduceSub, decide_eq_true_eq, Bool.not_eq_true', decide_eq_false_iff_not, not_false_eq_true, not_true_eq_false, decide_true, decide_false, Int.reduceEq, Int.reduceNe, Int.reduceLT, Int.reduceLE, Int.reduceGT, Int.reduceGE, Int.reduceNeg, Int.reduceAdd, Int.reduceSub, Int.reduceMul, Int.reduceDiv, Int.reduceMod, Int.reducePow, Int.reduceToNat, Nat.reduceMul, Nat.reduceEqDiff, Nat.reduceLeDiff, Nat.reduceLT, Nat.reduceGT, Nat.reducePow, $as,*])
local macro_rules
  | `(tactic| simp_arith! [$as,*]) => `(tactic| try simp_arith [$as,*])
open Cr
section
variable {W k n : Nat} {m : M} {ds : List D} {V : D → M → Prop} {X : Nat → M → Prop}
theorem go {f : Fn} (h : G n = some f) (g : ds.length = f.params ∧ O.Wp (f.body.exs W (run W G k) (mkEnv ds (f.slots - ds.length)) m) (fun _ m' => V .non m') V X) : R.Wp (run W G (k + 1) n ds m) V X := by
  rw [w_run h]; exact g
def isInt (v : D) (lo hi : Int) : Bool := match v with
  | .int i => decide (lo ≤ i ∧ i ≤ hi)
  | _ => false
theorem r0 {v : D} {lo hi : Int} (hv : v.pure = true) : run W G (k + 1) 0 [v, .int lo, .int hi] m = .ok (.bl (isInt v lo hi)) m := by
  refine run_ok (go rfl ?_)
  cases v <;> simp only [D.pure] at hv <;> first | cases hv | skip
  all_goals simp_arith [c0, isInt]
  split <;> simp [*]
theorem r19 {v : D} {lo hi : Int} (hv : v.pure = true) : run W G (k + 1) 19 [v, .int lo, .int hi] m = .ok (.bl (isInt v lo hi)) m := by
  refine run_ok (go rfl ?_)
  cases v <;> simp only [D.pure] at hv <;> first | cases hv | skip
  all_goals simp_arith [c19, isInt]
  split <;> simp [*]
def isPlan (v : D) : Bool := match v with
  | .tup [.int n, .int k, .int d] => decide (2 ≤ n ∧ n ≤ 8 ∧ 1 ≤ d ∧ d ≤ n - 1 ∧ 1 ≤ k ∧ k ≤ d)
  | _ => false
theorem isPlan_ex {v : D} (h : isPlan v = true) : ∃ n k d : Int, v = .tup [.int n, .int k, .int d] ∧ 2 ≤ n ∧ n ≤ 8 ∧ 1 ≤ d ∧ d ≤ n - 1 ∧ 1 ≤ k ∧ k ≤ d := by
  unfold isPlan at h
  split at h
  · exact ⟨_, _, _, rfl, of_decide_eq_true h⟩
  · cases h
theorem isPlan_len {xs : List D} (h : xs.length ≠ 3) : isPlan (.tup xs) = false := by
  unfold isPlan
  split
  · rename_i e; cases e; exact absurd rfl h
  · rfl
theorem isInt_ex {v : D} {lo hi : Int} (h : isInt v lo hi = true) : ∃ i : Int, v = .int i ∧ lo ≤ i ∧ i ≤ hi := by
  unfold isInt at h
  split at h
  · exact ⟨_, rfl, of_decide_eq_true h⟩
  · cases h
theorem pures_cons {x : D} {xs : List D} : D.pures (x :: xs) = (x.pure && D.pures xs) := by rw [D.pures]
theorem isPlan3 {a b c : D} : isPlan (.tup [a, b, c]) = (isInt a 2 8 && (match a with | .int n => isInt c 1 (n - 1) | _ => false) && (match c with | .int d => isInt b 1 d | _ => false)) := by
  cases a <;> cases b <;> cases c <;> simp [isInt, isPlan]
  rw [Bool.eq_iff_iff]
  simp
  omega
theorem r1 {v : D} (hv : v.pure = true) : run W G (k + 2) 1 [v] m = .ok (.bl (isPlan v)) m := by
  refine run_ok (go rfl ?_)
  cases v <;> simp only [D.pure] at hv <;> first | cases hv | skip
  case tup xs =>
    by_cases hl : xs.length = 3
    · rcases xs with _ | ⟨a, _ | ⟨b, _ | ⟨c, _ | ⟨d, r⟩⟩⟩⟩ <;> simp at hl
      simp only [D.pures, Bool.and_eq_true] at hv
      obtain ⟨h1, h2, h3, _⟩ := hv
      simp_arith [c1, ↓r0, h1]
      cases ha : isInt a 2 8
      · simp [isPlan3, ha]
      · obtain ⟨n, rfl, n1, n2⟩ := isInt_ex ha
        simp_arith [↓r0, h2, h3]
        cases hc : isInt c 1 (n - 1)
        · simp [isPlan3, hc]
        · obtain ⟨d, rfl, d1, d2⟩ := isInt_ex hc
          simp_arith [↓r0, h2, h3]
          simp [isPlan3, ha, hc]
    · have : ¬ ((xs.length : Nat) : Int) = 3 := by omega
      simp_arith [c1, this, isPlan_len hl]
  all_goals simp_arith [c1, isPlan]
end
end Rw

namespace Rw
open Rf
local macro_rules
  | `(tactic| simp_arith [$as,*]) => `(tactic| simp only [↓w_ok, ↓w_exc, ↓w_bind, ↓w_toO, ↓w_obind, ↓w_ite, ↓w_oite, ↓optW_some, ↓optW_none, ↓blW_bl, ↓intW_i, ↓lstW_l, ↓vw0, ↓vwS, ↓bw0, ↓bw0o, ↓bw0l, ↓bwS, en_free0, en_free0v, en_free0o, en_freeS, ↓ownW0, ↓ownWS, en_setZ, en_setS, ↓w_var, ↓w_bor, ↓w_con, ↓w_op, ↓w_nil, ↓w_cons, ↓w_and, ↓w_or, ↓w_eite, ↓w_chain, ↓w_chain3, ↓w_slc, ↓isTyW_str, ↓w_meth, ↓strW_s, ↓w_js, ↓w_jsn, ↓w_jsc, ↓w_call, ↓w_callv, ↓w_newM, ↓w_comp, ↓w_one, ↓w_refused, ↓w_nm, ↓w_tp, ↓w_tp0, ↓w_tpS, ↓w_wipe0, ↓w_wipeS, vfAt0, vfAtS, vf0, vf1, ↓s_set, ↓s_own', ↓frzW0, ↓frzW0v, ↓frzWS, ↓s_frz, ↓s_setIx, ↓s_msetIx, ↓s_append, ↓s_pop, ↓s_ex, ↓s_if, ↓w_fone, ↓s_for, ↓s_forOwn, ↓s_while, ↓s_ret, ↓s_retN, ↓s_raise, ↓s_pass, ↓s_tryN, ↓ss_nil, ↓ss_cons, mkEnv_c, mkEnv_z, mkEnv_s, ↓o_add, ↓o_addS, ↓o_addL, ↓o_addT, ↓o_sub, ↓o_mul, ↓o_mulL, ↓o_mulT, ↓o_fdiv, ↓o_mod, ↓o_pow, ↓o_neg, ↓o_not, ↓o_split, ↓o_fstrI, ↓o_fstrS, ↓o_strI, ↓o_intS, ↓o_inS, ↓o_ninS, ↓o_ixS0, ↓o_ixS1, ↓o_sortset, ↓o_sorted, ↓o_eqI, ↓o_neI, ↓o_eqS, ↓o_neS, ↓o_eqB, ↓o_eqL0, ↓o_neL0, ↓o_eqT0, ↓o_neT0, ↓o_neB, ↓o_lt, ↓o_le, ↓o_gt, ↓o_ge, ↓o_isN, ↓o_notN, ↓o_isB, ↓o_notB, ↓o_inL, ↓o_inT, ↓o_ninL, ↓o_ninT, ↓at0, ↓at1, ↓at2, ↓at3, ↓at4, ↓o_ixL, ↓o_ixT, ↓o_ixM, ↓o_slFL, ↓o_slFT, ↓o_slFS, ↓o_slTL, ↓o_slTT, ↓o_slTS, ↓o_lenL, ↓o_lenT, ↓o_lenS, ↓o_lenC, ↓o_intI, ↓o_intB, ↓o_min2, ↓o_max2, ↓o_sum, ↓o_all, ↓o_listL, ↓o_listT, ↓o_tupleL, ↓o_tupleT, ↓o_tupR, ↓o_listR, ↓ty_int_n, ↓ty_int_b, ↓ty_int_i, ↓ty_int_s, ↓ty_int_t, ↓ty_int_l, ↓ty_bool_n, ↓ty_bool_b, ↓ty_bool_i, ↓ty_bool_s, ↓ty_bool_t, ↓ty_bool_l, ↓ty_str_n, ↓ty_str_b, ↓ty_str_i, ↓ty_str_s, ↓ty_str_t, ↓ty_str_l, ↓ty_tuple_n, ↓ty_tuple_b, ↓ty_tuple_i, ↓ty_tuple_s, ↓ty_tuple_t, ↓ty_tuple_l, ↓ty_list_n, ↓ty_list_b, ↓ty_list_i, ↓ty_list_s, ↓ty_list_t, ↓ty_list_l, ↓o_bool, ↓o_tup, ↓o_lst, ↓o_range1, ↓o_range2, ↓o_range3, ↓o_zipLL, ↓o_zipTT, ↓o_zipLT, ↓o_zipTL, ↓o_enumL, ↓o_enumT, dp_non, dp_bl, dp_int, dp_str, dp_tup, dp_lst, dps_nil, dps_cons, Bool.and_true, Bool.true_and, lim_le, lim_lt, lg2, lg11, ↓itw_l, ↓itw_t, ↓itw_s, non_n, non_b, non_i, non_s, non_t, non_l, bq_tt, bq_tf, bq_ft, bq_ff, true_and, and_true, if_true, if_false, reduceIte, Bool.not_true, Bool.not_false, Bool.false_eq_true, reduceCtorEq, List.length_cons, List.length_nil, Int.cast_ofNat_Int, Nat.reduceAdd, Nat.reduceSub, decide_eq_true_eq, Bool.not_eq_true', decide_eq_false_iff_not, not_false_eq_true, not_true_eq_false, decide_true, decide_false, Int.reduceEq, Int.reduceNe, Int.reduceLT, Int.reduceLE, Int.reduceGT, Int.reduceGE, Int.reduceNeg, Int.reduceAdd, Int.reduceSub, Int.reduceMul, Int.reduceDiv, Int.reduceMod, Int.reducePow, Int.reduceToNat, Nat.reduceMul, Nat.reduceEqDiff, Nat.reduceLeDiff, Nat.reduceLT, Nat.reduceGT, Nat.reducePow, $as,*])
local macro_rules
  | `(tactic| simp_arith! [$as,*]) => `(tactic| try simp_arith [$as,*])
open Cr
section
variable {W k n : Nat} {m : M} {ds : List D} {V : D → M → Prop} {X : Nat → M → Prop}
theorem rangeL_zero {lo st : Int} : rangeL lo 0 st = [] := rfl
theorem rangeL_succ {lo st : Int} {n : Nat} : rangeL lo (n + 1) st = .int lo :: rangeL (lo + st) n st := by
  unfold rangeL
  rw [List.range_succ_eq_map, List.map_cons, List.map_map]
  refine congr (congrArg _ (by simp)) (List.map_congr_left fun a _ => ?_)
  simp only [Function.comp]
  congr 1
  have : ((a + 1 : Nat) : Int) = (a : Int) + 1 := by omega
  rw [show a.succ = a + 1 from rfl, this, Int.add_mul]
  omega
theorem rangeL_map {n : Nat} : rangeL 0 n 1 = (List.range n).map fun (k : Nat) => D.int k := by
  unfold rangeL
  refine List.map_congr_left fun a _ => ?_
  congr 1
  omega
theorem small62_of {i : Int} (h1 : -4611686018427387904 ≤ i) (h2 : i < 4611686018427387904) : small62 i = true := by
  unfold small62
  simp [h1, h2]
theorem b64r {i j : Int} (h1 : -18446744073709551616 < j) (h2 : j < 18446744073709551616) : (B64 i || B64 j) = true := by
  have : B64 j = true := by unfold B64; simp [h1, h2]
  rw [this, Bool.or_true]
theorem b64l {i j : Int} (h1 : -18446744073709551616 < i) (h2 : i < 18446744073709551616) : (B64 i || B64 j) = true := by
  have : B64 i = true := by unfold B64; simp [h1, h2]
  rw [this, Bool.true_or]
/-- the greatest file -/
def gr (d h s : Int) : Nat → Int
  | 0 => 0
  | k + 1 => gr d h s k + min h (s * (d - k))
theorem gr_sum {d h s : Int} : ∀ k : Nat, ((List.range k).map fun (a : Nat) => min h (s * (d - a))).sum = gr d h s k
  | 0 => rfl
  | k + 1 => by
    rw [List.range_succ, List.map_append, List.sum_append, gr_sum k]
    simp [gr]
theorem r2 {n k' d h s : Int} {kk : Nat} (h1 : 1 ≤ k') (h2 : k' ≤ d) (h3 : d ≤ 8) (hk : k' = kk) : run W G (k + 1) 2 [.tup [.int n, .int k', .int d], .int h, .int s] m = .ok (.int (gr d h s kk)) m := by
  refine run_ok (go rfl ?_)
  have hn : k'.toNat = kk := by omega
  simp_arith [c2, small62_of (i := k') (by omega) (by omega), hn]
  refine ⟨by show kk ≤ 16777216; omega, ?_⟩
  rw [rangeL_map]
  refine comp_map _ (fun a : Nat => D.int (min h (s * (d - a)))) _ (fun a ha => ?_) ?_
  · have := List.mem_range.mp ha
    simp_arith [b64r (i := s) (j := d - a) (by omega) (by omega)]
  · have e : (List.range kk).map (fun a : Nat => D.int (min h (s * (d - a)))) = ((List.range kk).map fun (a : Nat) => min h (s * (d - a))).map D.int := by rw [List.map_map]; rfl
    rw [e]
    simp_arith [gr_sum]
theorem w2 {n k' d h s : Int} (h1 : 1 ≤ k') (h2 : k' ≤ d) (h3 : d ≤ 8) : R.Wp (run W G (k + 1) 2 [.tup [.int n, .int k', .int d], .int h, .int s] m) V X = V (.int (gr d h s k'.toNat)) m := by
  rw [r2 h1 h2 h3 (kk := k'.toNat) (by omega)]; exact w_ok
def I27 (n k' d h s : Int) (kk : Nat) (m : M) (r : List D) (e : En) (m' : M) : Prop := ∃ (c : Nat) (t : Int) (sl : Option Sl), r = rangeL (d - c + 1) c 1 ∧ (c : Int) ≤ d ∧ e = [some (.val (.tup [.int n, .int k', .int d])), some (.val (.int h)), some (.val (.int s)), some (.val (.int t)), sl] ∧ vf sl = true ∧ m' = m ∧ t + gr d h s c = gr d h s kk
theorem vf_free {s : Option Sl} {e : En} (h : vf s = true) : En.free (s :: e) 0 = true := by
  rcases s with _ | s
  · rfl
  · cases s <;> first | rfl | cases h
theorem r27 {n k' d h s : Int} {kk : Nat} (h1 : 1 ≤ k') (h2 : k' ≤ d) (h3 : d ≤ 8) (hk : k' = kk) : run W G (k + 1) 27 [.tup [.int n, .int k', .int d], .int h, .int s] m = .ok (.int (gr d h s kk)) m := by
  refine run_ok (go rfl ?_)
  have hn : (d + 1 - (d - k' + 1)).toNat = kk := by omega
  simp_arith [c27, small62_of (i := d - k' + 1) (by omega) (by omega), small62_of (i := d + 1) (by omega) (by omega), hn]
  refine ⟨by show kk ≤ 16777216; omega, ?_⟩
  refine for_inv (I27 n k' d h s kk m) ?_ ?_ ?_
  · rintro x r e m' ⟨c, t, sl, hr, hc, rfl, hv, rfl, ht⟩
    cases c with
    | zero => rw [rangeL_zero] at hr; cases hr
    | succ c =>
      rw [rangeL_succ] at hr
      cases hr
      simp_arith [vf_free hv, b64r (i := s) (j := d - (c + 1 : Nat) + 1) (by omega) (by omega)]
      refine ⟨c, _, _, ?_, by omega, rfl, rfl, rfl, ?_⟩
      · congr 1; omega
      · rw [← ht, gr]
        have : d - ((c + 1 : Nat) : Int) + 1 = d - c := by omega
        rw [this]
        omega
  · rintro e m' ⟨c, t, sl, hr, hc, rfl, hv, rfl, ht⟩
    cases c with
    | zero =>
      simp_arith []
      rw [← ht, gr]
      simp
    | succ c => rw [rangeL_succ] at hr; cases hr
  · exact ⟨kk, 0, none, by congr 1; omega, by omega, rfl, rfl, rfl, by omega⟩
theorem w27 {n k' d h s : Int} (h1 : 1 ≤ k') (h2 : k' ≤ d) (h3 : d ≤ 8) : R.Wp (run W G (k + 1) 27 [.tup [.int n, .int k', .int d], .int h, .int s] m) V X = V (.int (gr d h s k'.toNat)) m := by
  rw [r27 h1 h2 h3 (kk := k'.toNat) (by omega)]; exact w_ok
end
end Rw

namespace Rw
open Rf
local macro_rules
  | `(tactic| simp_arith [$as,*]) => `(tactic| simp only [↓w_ok, ↓w_exc, ↓w_bind, ↓w_toO, ↓w_obind, ↓w_ite, ↓w_oite, ↓optW_some, ↓optW_none, ↓blW_bl, ↓intW_i, ↓lstW_l, ↓vw0, ↓vwS, ↓bw0, ↓bw0o, ↓bw0l, ↓bwS, en_free0, en_free0v, en_free0o, en_freeS, ↓ownW0, ↓ownWS, en_setZ, en_setS, ↓w_var, ↓w_bor, ↓w_con, ↓w_op, ↓w_nil, ↓w_cons, ↓w_and, ↓w_or, ↓w_eite, ↓w_chain, ↓w_chain3, ↓w_slc, ↓isTyW_str, ↓w_meth, ↓strW_s, ↓w_js, ↓w_jsn, ↓w_jsc, ↓w_call, ↓w_callv, ↓w_newM, ↓w_comp, ↓w_one, ↓w_refused, ↓w_nm, ↓w_tp, ↓w_tp0, ↓w_tpS, ↓w_wipe0, ↓w_wipeS, vfAt0, vfAtS, vf0, vf1, ↓s_set, ↓s_own', ↓frzW0, ↓frzW0v, ↓frzWS, ↓s_frz, ↓s_setIx, ↓s_msetIx, ↓s_append, ↓s_pop, ↓s_ex, ↓s_if, ↓w_fone, ↓s_for, ↓s_forOwn, ↓s_while, ↓s_ret, ↓s_retN, ↓s_raise, ↓s_pass, ↓s_tryN, ↓ss_nil, ↓ss_cons, mkEnv_c, mkEnv_z, mkEnv_s, ↓o_add, ↓o_addS, ↓o_addL, ↓o_addT, ↓o_sub, ↓o_mul, ↓o_mulL, ↓o_mulT, ↓o_fdiv, ↓o_mod, ↓o_pow, ↓o_neg, ↓o_not, ↓o_split, ↓o_fstrI, ↓o_fstrS, ↓o_strI, ↓o_intS, ↓o_inS, ↓o_ninS, ↓o_ixS0, ↓o_ixS1, ↓o_sortset, ↓o_sorted, ↓o_eqI, ↓o_neI, ↓o_eqS, ↓o_neS, ↓o_eqB, ↓o_eqL0, ↓o_neL0, ↓o_eqT0, ↓o_neT0, ↓o_neB, ↓o_lt, ↓o_le, ↓o_gt, ↓o_ge, ↓o_isN, ↓o_notN, ↓o_isB, ↓o_notB, ↓o_inL, ↓o_inT, ↓o_ninL, ↓o_ninT, ↓at0, ↓at1, ↓at2, ↓at3, ↓at4, ↓o_ixL, ↓o_ixT, ↓o_ixM, ↓o_slFL, ↓o_slFT, ↓o_slFS, ↓o_slTL, ↓o_slTT, ↓o_slTS, ↓o_lenL, ↓o_lenT, ↓o_lenS, ↓o_lenC, ↓o_intI, ↓o_intB, ↓o_min2, ↓o_max2, ↓o_sum, ↓o_all, ↓o_listL, ↓o_listT, ↓o_tupleL, ↓o_tupleT, ↓o_tupR, ↓o_listR, ↓ty_int_n, ↓ty_int_b, ↓ty_int_i, ↓ty_int_s, ↓ty_int_t, ↓ty_int_l, ↓ty_bool_n, ↓ty_bool_b, ↓ty_bool_i, ↓ty_bool_s, ↓ty_bool_t, ↓ty_bool_l, ↓ty_str_n, ↓ty_str_b, ↓ty_str_i, ↓ty_str_s, ↓ty_str_t, ↓ty_str_l, ↓ty_tuple_n, ↓ty_tuple_b, ↓ty_tuple_i, ↓ty_tuple_s, ↓ty_tuple_t, ↓ty_tuple_l, ↓ty_list_n, ↓ty_list_b, ↓ty_list_i, ↓ty_list_s, ↓ty_list_t, ↓ty_list_l, ↓o_bool, ↓o_tup, ↓o_lst, ↓o_range1, ↓o_range2, ↓o_range3, ↓o_zipLL, ↓o_zipTT, ↓o_zipLT, ↓o_zipTL, ↓o_enumL, ↓o_enumT, dp_non, dp_bl, dp_int, dp_str, dp_tup, dp_lst, dps_nil, dps_cons, Bool.and_true, Bool.true_and, lim_le, lim_lt, lg2, lg11, ↓itw_l, ↓itw_t, ↓itw_s, non_n, non_b, non_i, non_s, non_t, non_l, bq_tt, bq_tf, bq_ft, bq_ff, true_and, and_true, if_true, if_false, reduceIte, Bool.not_true, Bool.not_false, Bool.false_eq_true, reduceCtorEq, List.length_cons, List.length_nil, Int.cast_ofNat_Int, Nat.reduceAdd, Nat.reduceSub, decide_eq_true_eq, Bool.not_eq_true', decide_eq_false_iff_not, not_false_eq_true, not_true_eq_false, decide_true, decide_false, Int.reduceEq, Int.reduceNe, Int.reduceLT, Int.reduceLE, Int.reduceGT, Int.reduceGE, Int.reduceNeg, Int.reduceAdd, Int.reduceSub, Int.reduceMul, Int.reduceDiv, Int.reduceMod, Int.reducePow, Int.reduceToNat, Nat.reduceMul, Nat.reduceEqDiff, Nat.reduceLeDiff, Nat.reduceLT, Nat.reduceGT, Nat.reducePow, $as,*])
local macro_rules
  | `(tactic| simp_arith! [$as,*]) => `(tactic| try simp_arith [$as,*])
open Cr
section
variable {W k n : Nat} {m : M} {ds : List D} {V : D → M → Prop} {X : Nat → M → Prop}
theorem R.Wp.to {α : Type} {r : R α} {Q Q' : α → M → Prop} {X : Nat → M → Prop} (h : R.Wp r Q X) (h1 : ∀ a m, Q a m → Q' a m) : R.Wp r Q' X := h.imp h1 fun _ _ h => h
/-- a source of numbers at a place of the memory -/
def Src (m : M) (n : Nat) : Prop := ∃ a b : Int, m[n]? = some (.lst [.int a, .int b]) ∧ 0 ≤ a ∧ 0 ≤ b
theorem memW_of {xs : List D} {f : List D → Prop} (h : m[n]? = some (.lst xs)) : memW m n f = f xs := by
  unfold memW
  rw [h]
theorem src_set {xs : List D} {a b : Int} (h : m[n]? = some (.lst xs)) (ha : 0 ≤ a) (hb : 0 ≤ b) : Src (m.set n (.lst [.int a, .int b])) n := by
  have hn : n < m.length := by
    rcases Nat.lt_or_ge n m.length with q | q
    · exact q
    · rw [List.getElem?_eq_none q] at h; cases h
  exact ⟨a, b, by rw [List.getElem?_set_self hn], ha, hb⟩
def P15 (m : M) (d : D) (m' : M) : Prop := d = .mref m.length ∧ Src m' m.length
theorem w15 {ns : List Int} {j : Nat} : R.Wp (run W G (k + 1) 15 [.scr ns, .int j] m) (P15 m) X := by
  refine go rfl ?_
  have fin : ∀ z y : Int, 0 ≤ z → 0 ≤ y → P15 m (.mref m.length) (m ++ [.lst [.int z, .int y]]) := fun z y hz hy => ⟨rfl, z, y, by simp, hz, hy⟩
  have b1 : ∀ p : Int, (B64 p || B64 16807) = true := fun p => b64r (by omega) (by omega)
  have b2 : ∀ p : Int, (B64 60919 || B64 p) = true := fun p => b64l (by omega) (by omega)
  have b4 : ∀ p : Int, (B64 2 || B64 p) = true := fun p => b64l (by omega) (by omega)
  have b3 : ∀ p : Int, (B64 (p % 2147481173) || B64 (p % 2147481173)) = true := fun p => b64l (by omega) (by omega)
  have b5 : B64 10 = true := rfl
  simp_arith [c15, b1, b2, b3, b4, b5]
  have ix : ∀ {f : D → Prop}, (j : Int) < (ns.length : Int) → (∀ z, f (.int z)) → optW (Op.app .ix [.scr ns, .int (j : Int)] m) f := by
    intro f h hf
    rw [o_ixC]
    unfold ixN
    rw [if_pos (by omega), if_pos h]
    have : j < ns.length := by omega
    simp only [Option.bind, Int.toNat_natCast]
    rw [List.getElem?_eq_getElem this]
    exact hf _
  split
  · rename_i h
    refine ix h fun z => ?_
    simp_arith [b1, b2, b3, b4, b5]
    split
    · exact fin _ _ (by omega) (by omega)
    · exact fin _ _ (by omega) (by omega)
  · exact fin _ _ (by omega) (by omega)
def P16 (n : Nat) (many : Int) (d : D) (m' : M) : Prop := ∃ j : Int, d = .int j ∧ 0 ≤ j ∧ j < many ∧ Src m' n
theorem w16 {many : Int} (hs : Src m n) (h0 : 0 < many) (h1 : many ≤ 10 ^ 60) : R.Wp (run W G (k + 1) 16 [.mref n, .int many] m) (P16 n many) X := by
  obtain ⟨a, b, hm, ha, hb⟩ := hs
  refine go rfl ?_
  have lg : many.natAbs.log2 < 9000 := by
    have : many.natAbs < 2 ^ 9000 := by
      have e : many.natAbs ≤ 10 ^ 60 := by omega
      exact Nat.lt_of_le_of_lt e (by decide +kernel)
    rcases Nat.eq_zero_or_pos many.natAbs with q | q
    · omega
    · exact (Nat.log2_lt (by omega)).mpr this
  have b1 : ∀ p : Int, (B64 p || B64 44497) = true := fun p => b64r (by omega) (by omega)
  have b3 : ∀ p : Int, (B64 (p % 2147483647) || B64 (p % 2147483647)) = true := fun p => b64l (by omega) (by omega)
  simp_arith [c16, ↓memW_of hm, b1, h0, lg, ixN]
  split
  · refine ⟨a % many, rfl, Int.emod_nonneg _ (by omega), Int.emod_lt_of_pos _ h0, src_set hm ?_ hb⟩
    exact Int.ediv_nonneg ha (by omega)
  · have hm2 : (List.set m n (MO.lst ([D.int a, D.int b].set 1 (D.int ((b * 44497 + 9973) % 2147483647)))))[n]? = some (.lst [.int a, .int ((b * 44497 + 9973) % 2147483647)]) := by
      have hn : n < m.length := by
        rcases Nat.lt_or_ge n m.length with q | q
        · exact q
        · rw [List.getElem?_eq_none q] at hm; cases hm
      rw [List.getElem?_set_self hn]
      rfl
    simp_arith [↓memW_of hm2, b3, h0, lg]
    exact ⟨_, rfl, Int.emod_nonneg _ (by omega), Int.emod_lt_of_pos _ h0, a, (b * 44497 + 9973) % 2147483647, hm2, ha, Int.emod_nonneg _ (by omega)⟩
theorem w17 {things : List D} (hs : Src m n) (h0 : things ≠ []) (h1 : things.length ≤ 10 ^ 60) : R.Wp (run W G (k + 2) 17 [.mref n, .lst things] m) (fun d m' => d ∈ things ∧ Src m' n) X := by
  refine go rfl ?_
  simp_arith [c17]
  have hl : 0 < things.length := List.length_pos_iff.mpr h0
  refine (w16 hs (by omega) (by omega)).to ?_
  rintro d m' ⟨j, rfl, j0, j1, hs'⟩
  simp_arith! []
  exact at_mem j0 j1 fun x hx => ⟨hx, hs'⟩
theorem w17t {things : List D} (hs : Src m n) (h0 : things ≠ []) (h1 : things.length ≤ 10 ^ 60) : R.Wp (run W G (k + 2) 17 [.mref n, .tup things] m) (fun d m' => d ∈ things ∧ Src m' n) X := by
  refine go rfl ?_
  simp_arith [c17]
  have hl : 0 < things.length := List.length_pos_iff.mpr h0
  refine (w16 hs (by omega) (by omega)).to ?_
  rintro d m' ⟨j, rfl, j0, j1, hs'⟩
  simp_arith! []
  exact at_mem j0 j1 fun x hx => ⟨hx, hs'⟩
theorem w18 {a b : Bool} : R.Wp (run W G (k + 1) 18 [.bl a, .bl b] m) V X = V (.bl (a == b)) m := by
  rw [w_run rfl]
  simp_arith [c18]
theorem w20 {f : Nat} {a b c : D} : R.Wp (run W G (k + 1) 20 [.fn f, a, b, c] m) V X = R.Wp (run W G k f [a, b, c] m) (fun _ m' => V (.str []) m') (fun c m' => V (.str (errWord c)) m') := by
  rw [w_run rfl]
  simp_arith [c20]
/-- a drawn plan -/
theorem w26 {most : Int} (hs : Src m n) (h0 : 2 ≤ most) (h1 : most ≤ 8) : R.Wp (run W G (k + 2) 26 [.mref n, .int most] m) (fun d m' => (∃ a b c : Int, d = .tup [.int a, .int b, .int c] ∧ 2 ≤ a ∧ a ≤ most ∧ 1 ≤ c ∧ c ≤ a - 1 ∧ 1 ≤ b ∧ b ≤ c) ∧ Src m' n) X := by
  refine go rfl ?_
  simp_arith [c26]
  refine (w16 hs (by omega) (by omega)).to ?_
  rintro d m' ⟨j, rfl, j0, j1, hs'⟩
  simp_arith! []
  refine (w16 hs' (by omega) (by omega)).to ?_
  rintro d m' ⟨j', rfl, j0', j1', hs'⟩
  simp_arith! []
  refine (w16 hs' (by omega) (by omega)).to ?_
  rintro d m' ⟨j2, rfl, j02, j12, hs'⟩
  simp_arith! []
  exact ⟨⟨2 + j, 1 + j2, 1 + j', rfl, by omega, by omega, by omega, by omega, by omega, by omega⟩, hs'⟩
theorem w28 {most : Int} (hs : Src m n) (h0 : 1 ≤ most) (h1 : most ≤ 10 ^ 50) : R.Wp (run W G (k + 3) 28 [.mref n, .int most] m) (fun d m' => (∃ a : Int, d = .int a ∧ 0 ≤ a ∧ a ≤ most) ∧ Src m' n) X := by
  refine go rfl ?_
  simp_arith [c28]
  refine (w16 hs (by omega) (by omega)).to ?_
  rintro d m' ⟨j, rfl, j0, j1, hs'⟩
  simp_arith! []
  refine (w16 hs' (by omega) (by omega)).to ?_
  rintro d m' ⟨j', rfl, j0', j1', hs'⟩
  refine (w17 hs' (by simp) (by simp)).to ?_
  rintro d m' ⟨hd, hs'⟩
  refine ⟨?_, hs'⟩
  simp only [List.mem_cons, List.not_mem_nil, or_false] at hd
  rcases hd with rfl | rfl | rfl | rfl | rfl
  · exact ⟨_, rfl, by omega, by omega⟩
  · exact ⟨_, rfl, by omega, by omega⟩
  · exact ⟨_, rfl, by omega, by omega⟩
  · exact ⟨_, rfl, by omega, by omega⟩
  · exact ⟨_, rfl, by omega, by omega⟩
end
end Rw

namespace Rw
open Rf
local macro_rules
  | `(tactic| simp_arith [$as,*]) => `(tactic| simp only [↓w_ok, ↓w_exc, ↓w_bind, ↓w_toO, ↓w_obind, ↓w_ite, ↓w_oite, ↓optW_some, ↓optW_none, ↓blW_bl, ↓intW_i, ↓lstW_l, ↓vw0, ↓vwS, ↓bw0, ↓bw0o, ↓bw0l, ↓bwS, en_free0, en_free0v, en_free0o, en_freeS, ↓ownW0, ↓ownWS, en_setZ, en_setS, ↓w_var, ↓w_bor, ↓w_con, ↓w_op, ↓w_nil, ↓w_cons, ↓w_and, ↓w_or, ↓w_eite, ↓w_chain, ↓w_chain3, ↓w_slc, ↓isTyW_str, ↓w_meth, ↓strW_s, ↓w_js, ↓w_jsn, ↓w_jsc, ↓w_call, ↓w_callv, ↓w_newM, ↓w_comp, ↓w_one, ↓w_refused, ↓w_nm, ↓w_tp, ↓w_tp0, ↓w_tpS, ↓w_wipe0, ↓w_wipeS, vfAt0, vfAtS, vf0, vf1, ↓s_set, ↓s_own', ↓frzW0, ↓frzW0v, ↓frzWS, ↓s_frz, ↓s_setIx, ↓s_msetIx, ↓s_append, ↓s_pop, ↓s_ex, ↓s_if, ↓w_fone, ↓s_for, ↓s_forOwn, ↓s_while, ↓s_ret, ↓s_retN, ↓s_raise, ↓s_pass, ↓s_tryN, ↓ss_nil, ↓ss_cons, mkEnv_c, mkEnv_z, mkEnv_s, ↓o_add, ↓o_addS, ↓o_addL, ↓o_addT, ↓o_sub, ↓o_mul, ↓o_mulL, ↓o_mulT, ↓o_fdiv, ↓o_mod, ↓o_pow, ↓o_neg, ↓o_not, ↓o_split, ↓o_fstrI, ↓o_fstrS, ↓o_strI, ↓o_intS, ↓o_inS, ↓o_ninS, ↓o_ixS0, ↓o_ixS1, ↓o_sortset, ↓o_sorted, ↓o_eqI, ↓o_neI, ↓o_eqS, ↓o_neS, ↓o_eqB, ↓o_eqL0, ↓o_neL0, ↓o_eqT0, ↓o_neT0, ↓o_neB, ↓o_lt, ↓o_le, ↓o_gt, ↓o_ge, ↓o_isN, ↓o_notN, ↓o_isB, ↓o_notB, ↓o_inL, ↓o_inT, ↓o_ninL, ↓o_ninT, ↓at0, ↓at1, ↓at2, ↓at3, ↓at4, ↓o_ixL, ↓o_ixT, ↓o_ixM, ↓o_slFL, ↓o_slFT, ↓o_slFS, ↓o_slTL, ↓o_slTT, ↓o_slTS, ↓o_lenL, ↓o_lenT, ↓o_lenS, ↓o_lenC, ↓o_intI, ↓o_intB, ↓o_min2, ↓o_max2, ↓o_sum, ↓o_all, ↓o_listL, ↓o_listT, ↓o_tupleL, ↓o_tupleT, ↓o_tupR, ↓o_listR, ↓ty_int_n, ↓ty_int_b, ↓ty_int_i, ↓ty_int_s, ↓ty_int_t, ↓ty_int_l, ↓ty_bool_n, ↓ty_bool_b, ↓ty_bool_i, ↓ty_bool_s, ↓ty_bool_t, ↓ty_bool_l, ↓ty_str_n, ↓ty_str_b, ↓ty_str_i, ↓ty_str_s, ↓ty_str_t, ↓ty_str_l, ↓ty_tuple_n, ↓ty_tuple_b, ↓ty_tuple_i, ↓ty_tuple_s, ↓ty_tuple_t, ↓ty_tuple_l, ↓ty_list_n, ↓ty_list_b, ↓ty_list_i, ↓ty_list_s, ↓ty_list_t, ↓ty_list_l, ↓o_bool, ↓o_tup, ↓o_lst, ↓o_range1, ↓o_range2, ↓o_range3, ↓o_zipLL, ↓o_zipTT, ↓o_zipLT, ↓o_zipTL, ↓o_enumL, ↓o_enumT, dp_non, dp_bl, dp_int, dp_str, dp_tup, dp_lst, dps_nil, dps_cons, Bool.and_true, Bool.true_and, lim_le, lim_lt, lg2, lg11, ↓itw_l, ↓itw_t, ↓itw_s, non_n, non_b, non_i, non_s, non_t, non_l, bq_tt, bq_tf, bq_ft, bq_ff, true_and, and_true, if_true, if_false, reduceIte, Bool.not_true, Bool.not_false, Bool.false_eq_true, reduceCtorEq, List.length_cons, List.length_nil, Int.cast_ofNat_Int, Nat.reduceAdd, Nat.reduceSub, decide_eq_true_eq, Bool.not_eq_true', decide_eq_false_iff_not, not_false_eq_true, not_true_eq_false, decide_true, decide_false, Int.reduceEq, Int.reduceNe, Int.reduceLT, Int.reduceLE, Int.reduceGT, Int.reduceGE, Int.reduceNeg, Int.reduceAdd, Int.reduceSub, Int.reduceMul, Int.reduceDiv, Int.reduceMod, Int.reducePow, Int.reduceToNat, Nat.reduceMul, Nat.reduceEqDiff, Nat.reduceLeDiff, Nat.reduceLT, Nat.reduceGT, Nat.reducePow, $as,*])
local macro_rules
  | `(tactic| simp_arith! [$as,*]) => `(tactic| try simp_arith [$as,*])
open Cr
section
variable {W k n : Nat} {m : M} {ds : List D} {V : D → M → Prop} {X : Nat → M → Prop}
theorem pures_iff : ∀ {xs : List D}, D.pures xs = true ↔ ∀ x, x ∈ xs → x.pure = true
  | [] => by simp [D.pures]
  | x :: xs => by simp [D.pures, pures_iff (xs := xs)]
theorem depths_le {b : Nat} : ∀ {xs : List D}, D.depths xs ≤ b ↔ ∀ x, x ∈ xs → x.depth ≤ b
  | [] => by simp [D.depths]
  | x :: xs => by simp [D.depths, depths_le (xs := xs), Nat.max_le]
theorem depth_tup {xs : List D} : (D.tup xs).depth = D.depths xs + 1 := by rw [D.depth]
theorem depth_lst {xs : List D} : (D.lst xs).depth = D.depths xs + 1 := by rw [D.depth]
theorem pure_tup {xs : List D} : (D.tup xs).pure = D.pures xs := by rw [D.pure]
theorem pure_lst {xs : List D} : (D.lst xs).pure = D.pures xs := by rw [D.pure]
/-- a thing of plain data, not too deep -/
def Dat (b : Nat) (d : D) : Prop := d.pure = true ∧ d.depth ≤ b
theorem Dat.tup {b : Nat} {xs : List D} (h : ∀ x, x ∈ xs → Dat b x) : Dat (b + 1) (.tup xs) :=
  ⟨by rw [pure_tup, pures_iff]; exact fun x hx => (h x hx).1, by rw [depth_tup]; exact Nat.succ_le_succ (depths_le.mpr fun x hx => (h x hx).2)⟩
theorem Dat.lst {b : Nat} {xs : List D} (h : ∀ x, x ∈ xs → Dat b x) : Dat (b + 1) (.lst xs) :=
  ⟨by rw [pure_lst, pures_iff]; exact fun x hx => (h x hx).1, by rw [depth_lst]; exact Nat.succ_le_succ (depths_le.mpr fun x hx => (h x hx).2)⟩
theorem Dat.of_tup {b : Nat} {xs : List D} (h : Dat (b + 1) (.tup xs)) : ∀ x, x ∈ xs → Dat b x := fun x hx =>
  ⟨pures_iff.mp (by have := h.1; rwa [pure_tup] at this) x hx, depths_le.mp (by have := h.2; rw [depth_tup] at this; omega) x hx⟩
theorem Dat.of_lst {b : Nat} {xs : List D} (h : Dat (b + 1) (.lst xs)) : ∀ x, x ∈ xs → Dat b x := fun x hx =>
  ⟨pures_iff.mp (by have := h.1; rwa [pure_lst] at this) x hx, depths_le.mp (by have := h.2; rw [depth_lst] at this; omega) x hx⟩
theorem Dat.mono {b c : Nat} {d : D} (h : Dat b d) (hb : b ≤ c) : Dat c d := ⟨h.1, Nat.le_trans h.2 hb⟩
def simples : List D := [.non, .bl true, .bl false, .int 0, .int 1, .int 2, .int 7, .int (-3), .int 1000000000000000000000000000000, .str [], .str [116, 97, 108, 107], .str [48, 58, 32, 49], .tup [], .lst [], .tup [.int 4, .int 2, .int 3], .tup [.int 0], .tup [.tup [.int 0, .tup [.int 1, .int 2, .int 3]]], .tup [.int 1, .int 1]]
theorem simples_dat : ∀ x, x ∈ simples → Dat 3 x := by
  have h : ∀ x, x ∈ simples → (x.pure && decide (x.depth ≤ 3)) = true := List.all_eq_true.mp (by decide +kernel)
  intro x hx
  have := h x hx
  rw [Bool.and_eq_true, decide_eq_true_eq] at this
  exact this
def P22 (n j : Nat) (d : D) (m' : M) : Prop := Dat (j + 3) d ∧ Src m' n
theorem w22 : ∀ {j : Nat} {m : M} {k : Nat} {X : Nat → M → Prop}, Src m n → R.Wp (run W G (k + j + 3) 22 [.mref n, .int j] m) (P22 n j) X := by
  intro j
  induction j with
  | zero =>
    intro m k X hs
    refine go rfl ?_
    have b5 : B64 10 = true := rfl
    simp_arith [c22, b5, List.cons_append, List.nil_append, show ∀ n : Nat, n ≤ LIM ↔ n ≤ 16777216 from fun _ => Iff.rfl]
    refine (w16 hs (by omega) (by omega)).to ?_
    rintro d m' ⟨w, rfl, _, _, hs'⟩
    simp_arith! []
    exact (w17 (things := simples) hs' (by simp [simples]) (by simp [simples])).to fun d m2 h => ⟨(simples_dat d h.1).mono (by omega), h.2⟩
  | succ j ih =>
    intro m k X hs
    refine go rfl ?_
    have b5 : B64 10 = true := rfl
    simp_arith [c22, b5, List.cons_append, List.nil_append, show ∀ n : Nat, n ≤ LIM ↔ n ≤ 16777216 from fun _ => Iff.rfl]
    refine (w16 hs (by omega) (by omega)).to ?_
    rintro d m' ⟨w, rfl, _, _, hs'⟩
    simp_arith! [show ¬ ((j + 1 : Nat) : Int) < 1 by omega, show ((j + 1 : Nat) : Int) - 1 = j by omega]
    split
    · exact (w17 (things := simples) hs' (by simp [simples]) (by simp [simples])).to fun d m2 h => ⟨(simples_dat d h.1).mono (by omega), h.2⟩
    · refine (w16 hs' (by omega) (by omega)).to ?_
      rintro d m' ⟨w2, rfl, _, _, hs'⟩
      simp_arith! [small62_of (i := w2) (by omega) (by omega)]
      refine ⟨by show w2.toNat ≤ 16777216; omega, ?_⟩
      refine comp_inv (fun m => Src m n) (Dat (j + 3)) hs' ?_ ?_
      · intro x hx m hs
        simp_arith! [show ((j + 1 : Nat) : Int) - 1 = j by omega]
        rw [show k + (j + 1) + 2 = k + j + 3 by omega]
        exact (ih hs).to fun d m' h => ⟨h.2, d, rfl, h.1⟩
      · intro ys m' hs hy _
        simp_arith! []
        split
        · exact ⟨(Dat.lst hy).mono (by omega), hs⟩
        · exact ⟨(Dat.tup hy).mono (by omega), hs⟩
/-- a value that is otherwise at one place -/
def P23 (n b : Nat) (d : D) (m' : M) : Prop := Dat (b + 5) d ∧ Src m' n
theorem seqW (v : D) (b : Nat) (hv : Dat b v) (hh : (∃ xs, v = .tup xs) ∨ ∃ xs, v = .lst xs) : ∃ xs c, b = c + 1 ∧ (v = .tup xs ∨ v = .lst xs) ∧ ∀ x, x ∈ xs → Dat c x := by
  obtain _ | c := b
  · rcases hh with ⟨xs, rfl⟩ | ⟨xs, rfl⟩
    · have := hv.2; rw [depth_tup] at this; omega
    · have := hv.2; rw [depth_lst] at this; omega
  · rcases hh with ⟨xs, rfl⟩ | ⟨xs, rfl⟩
    · exact ⟨xs, c, rfl, .inl rfl, hv.of_tup⟩
    · exact ⟨xs, c, rfl, .inr rfl, hv.of_lst⟩
theorem Dat.mem_take {b i : Nat} {xs : List D} (h : ∀ x, x ∈ xs → Dat b x) : ∀ x, x ∈ xs.take i → Dat b x := fun x hx => h x (List.mem_of_mem_take hx)
theorem Dat.mem_drop {b i : Nat} {xs : List D} (h : ∀ x, x ∈ xs → Dat b x) : ∀ x, x ∈ xs.drop i → Dat b x := fun x hx => h x (List.mem_of_mem_drop hx)
/-- no tuple or list in it is long -/
def Nar : Nat → D → Prop
  | 0, _ => True
  | b + 1, v => ∀ xs, v = .tup xs ∨ v = .lst xs → xs.length ≤ 1000 ∧ ∀ x, x ∈ xs → Nar b x
def nears : List D := [.non, .bl true, .int 0, .int 1, .int 2, .int 3, .int 4, .int 5, .int 8, .int 9, .int (-1), .int 11, .int 31, .int 32, .str [49], .str [114, 111, 111, 109], .tup [], .tup [.int 0, .int 1], .lst [.int 0]]
theorem nears_dat : ∀ x, x ∈ nears → Dat 3 x := by
  have h : ∀ x, x ∈ nears → (x.pure && decide (x.depth ≤ 3)) = true := List.all_eq_true.mp (by decide +kernel)
  intro x hx
  have := h x hx
  rw [Bool.and_eq_true, decide_eq_true_eq] at this
  exact this
theorem w23 : ∀ {b : Nat} {v : D} {m : M} {k : Nat} {X : Nat → M → Prop}, Src m n → Dat b v → ((∃ xs, v = .tup xs) ∨ ∃ xs, v = .lst xs) → Nar b v → R.Wp (run W G (k + b + 6) 23 [.mref n, v] m) (P23 n b) X := by
  intro b
  induction b with
  | zero =>
    intro v m k X hs hv hh
    obtain ⟨xs, c, h, _⟩ := seqW v 0 hv hh
    omega
  | succ b ih =>
    intro v m k X hs hv hh hlen
    obtain ⟨xs, c, hc, hx, hd⟩ := seqW v _ hv hh
    obtain rfl : b = c := by omega
    obtain ⟨hl, hsub⟩ := hlen xs hx
    have hp : D.pures xs = true := pures_iff.mpr fun x hx => (hd x hx).1
    have hd5 : ∀ x, x ∈ xs → Dat (b + 5) x := fun x hx => (hd x hx).mono (by omega)
    refine go rfl ?_
    rcases hx with rfl | rfl
    all_goals
      simp_arith [c23, hp]
      by_cases hx0 : xs = []
      · simp_arith [hx0]
        rw [show k + (b + 1) + 5 = (k + b + 2) + 1 + 3 by omega]
        exact (w22 (j := 1) hs).to fun d m' h => ⟨(Dat.tup (b := 4) fun x hx => by simp at hx; rw [hx]; exact h.1).mono (by omega), h.2⟩
      have hl0 : 0 < xs.length := List.length_pos_iff.mpr hx0
      simp_arith [hx0]
      refine (w16 hs (by omega) (by omega)).to ?_
      rintro d m' ⟨w, rfl, w0, w1, hs⟩
      simp_arith! []
      refine (w16 hs (by omega) (by omega)).to ?_
      rintro d m' ⟨u, rfl, u0, u1, hs⟩
      simp_arith! []
      have tl : ∀ i j, (List.take i xs).length + (List.drop j xs).length ≤ LIM := fun i j => by
        rw [List.length_take, List.length_drop]
        show _ ≤ 16777216
        omega
      have t0 : ∀ i j, P23 n (b + 1) (.tup (xs.take i ++ xs.drop j)) m' := fun i j =>
        ⟨(Dat.tup fun x hx => (List.mem_append.mp hx).elim (fun h => hd5 x (List.mem_of_mem_take h)) (fun h => hd5 x (List.mem_of_mem_drop h))).mono (by omega), hs⟩
      have t2 : P23 n (b + 1) (.lst xs) m' := ⟨(Dat.lst hd).mono (by omega), hs⟩
      have ts : ∀ {d m1}, Dat (b + 5) d → Src m1 n → optW (ixN xs.length w) fun j => P23 n (b + 1) (D.tup (xs.set j d)) m1 := fun hd2 hs2 => by
        rw [ixw_of w0 w1]
        exact ⟨(Dat.tup fun x hx => (List.mem_or_eq_of_mem_set hx).elim (hd5 x) fun h => h ▸ hd2).mono (by omega), hs2⟩
      have t3 : ∀ (V : D → M → Prop), (∀ d m1, Dat 3 d → Src m1 n → V d m1) → R.Wp (run W G (k + (b + 1) + 5) 17 [D.mref n, D.lst nears] m') V X := fun V hV =>
        (w17 hs (by simp [nears]) (by simp [nears])).to fun d m1 h => hV d m1 (nears_dat d h.1) h.2
      obtain ⟨x, hx, _, hat⟩ := at_get w0 w1
      simp_arith [hat]
      have hdx := hd x hx
      cases x with
      | fn _ => exact absurd hdx.1 (by simp [D.pure])
      | mref _ => exact absurd hdx.1 (by simp [D.pure])
      | scr _ => exact absurd hdx.1 (by simp [D.pure])
      | tup ys =>
        have hpy : D.pures ys = true := by have := hdx.1; rwa [pure_tup] at this
        simp_arith [hpy]
        repeat' split
        all_goals first | exact ⟨tl _ _, t0 _ _⟩ | exact t2 | exact t3 _ (fun d m1 h1 h2 => ts (h1.mono (by omega)) h2) | exact (ih (k := k) hs hdx (.inl ⟨ys, rfl⟩) (hsub _ hx)).to fun d m1 h => ts h.1 h.2
      | _ =>
        simp_arith! []
        repeat' split
        all_goals first | exact ⟨tl _ _, t0 _ _⟩ | exact t2 | exact t3 _ (fun d m1 h1 h2 => ts (h1.mono (by omega)) h2)
end
end Rw

namespace Rw
open Rf
local macro_rules
  | `(tactic| simp_arith [$as,*]) => `(tactic| simp only [↓w_ok, ↓w_exc, ↓w_bind, ↓w_toO, ↓w_obind, ↓w_ite, ↓w_oite, ↓optW_some, ↓optW_none, ↓blW_bl, ↓intW_i, ↓lstW_l, ↓vw0, ↓vwS, ↓bw0, ↓bw0o, ↓bw0l, ↓bwS, en_free0, en_free0v, en_free0o, en_freeS, ↓ownW0, ↓ownWS, en_setZ, en_setS, ↓w_var, ↓w_bor, ↓w_con, ↓w_op, ↓w_nil, ↓w_cons, ↓w_and, ↓w_or, ↓w_eite, ↓w_chain, ↓w_chain3, ↓w_slc, ↓isTyW_str, ↓w_meth, ↓strW_s, ↓w_js, ↓w_jsn, ↓w_jsc, ↓w_call, ↓w_callv, ↓w_newM, ↓w_comp, ↓w_one, ↓w_refused, ↓w_nm, ↓w_tp, ↓w_tp0, ↓w_tpS, ↓w_wipe0, ↓w_wipeS, vfAt0, vfAtS, vf0, vf1, ↓s_set, ↓s_own', ↓frzW0, ↓frzW0v, ↓frzWS, ↓s_frz, ↓s_setIx, ↓s_msetIx, ↓s_append, ↓s_pop, ↓s_ex, ↓s_if, ↓w_fone, ↓s_for, ↓s_forOwn, ↓s_while, ↓s_ret, ↓s_retN, ↓s_raise, ↓s_pass, ↓s_tryN, ↓ss_nil, ↓ss_cons, mkEnv_c, mkEnv_z, mkEnv_s, ↓o_add, ↓o_addS, ↓o_addL, ↓o_addT, ↓o_sub, ↓o_mul, ↓o_mulL, ↓o_mulT, ↓o_fdiv, ↓o_mod, ↓o_pow, ↓o_neg, ↓o_not, ↓o_split, ↓o_fstrI, ↓o_fstrS, ↓o_strI, ↓o_intS, ↓o_inS, ↓o_ninS, ↓o_ixS0, ↓o_ixS1, ↓o_sortset, ↓o_sorted, ↓o_eqI, ↓o_neI, ↓o_eqS, ↓o_neS, ↓o_eqB, ↓o_eqL0, ↓o_neL0, ↓o_eqT0, ↓o_neT0, ↓o_neB, ↓o_lt, ↓o_le, ↓o_gt, ↓o_ge, ↓o_isN, ↓o_notN, ↓o_isB, ↓o_notB, ↓o_inL, ↓o_inT, ↓o_ninL, ↓o_ninT, ↓at0, ↓at1, ↓at2, ↓at3, ↓at4, ↓o_ixL, ↓o_ixT, ↓o_ixM, ↓o_slFL, ↓o_slFT, ↓o_slFS, ↓o_slTL, ↓o_slTT, ↓o_slTS, ↓o_lenL, ↓o_lenT, ↓o_lenS, ↓o_lenC, ↓o_intI, ↓o_intB, ↓o_min2, ↓o_max2, ↓o_sum, ↓o_all, ↓o_listL, ↓o_listT, ↓o_tupleL, ↓o_tupleT, ↓o_tupR, ↓o_listR, ↓ty_int_n, ↓ty_int_b, ↓ty_int_i, ↓ty_int_s, ↓ty_int_t, ↓ty_int_l, ↓ty_bool_n, ↓ty_bool_b, ↓ty_bool_i, ↓ty_bool_s, ↓ty_bool_t, ↓ty_bool_l, ↓ty_str_n, ↓ty_str_b, ↓ty_str_i, ↓ty_str_s, ↓ty_str_t, ↓ty_str_l, ↓ty_tuple_n, ↓ty_tuple_b, ↓ty_tuple_i, ↓ty_tuple_s, ↓ty_tuple_t, ↓ty_tuple_l, ↓ty_list_n, ↓ty_list_b, ↓ty_list_i, ↓ty_list_s, ↓ty_list_t, ↓ty_list_l, ↓o_bool, ↓o_tup, ↓o_lst, ↓o_range1, ↓o_range2, ↓o_range3, ↓o_zipLL, ↓o_zipTT, ↓o_zipLT, ↓o_zipTL, ↓o_enumL, ↓o_enumT, dp_non, dp_bl, dp_int, dp_str, dp_tup, dp_lst, dps_nil, dps_cons, Bool.and_true, Bool.true_and, lim_le, lim_lt, lg2, lg11, ↓itw_l, ↓itw_t, ↓itw_s, non_n, non_b, non_i, non_s, non_t, non_l, bq_tt, bq_tf, bq_ft, bq_ff, true_and, and_true, if_true, if_false, reduceIte, Bool.not_true, Bool.not_false, Bool.false_eq_true, reduceCtorEq, List.length_cons, List.length_nil, Int.cast_ofNat_Int, Nat.reduceAdd, Nat.reduceSub, decide_eq_true_eq, Bool.not_eq_true', decide_eq_false_iff_not, not_false_eq_true, not_true_eq_false, decide_true, decide_false, Int.reduceEq, Int.reduceNe, Int.reduceLT, Int.reduceLE, Int.reduceGT, Int.reduceGE, Int.reduceNeg, Int.reduceAdd, Int.reduceSub, Int.reduceMul, Int.reduceDiv, Int.reduceMod, Int.reducePow, Int.reduceToNat, Nat.reduceMul, Nat.reduceEqDiff, Nat.reduceLeDiff, Nat.reduceLT, Nat.reduceGT, Nat.reducePow, $as,*])
local macro_rules
  | `(tactic| simp_arith! [$as,*]) => `(tactic| try simp_arith [$as,*])
open Cr
section
variable {W k n : Nat} {m : M} {ds : List D} {V : D → M → Prop} {X : Nat → M → Prop}
theorem gr_mono {d h h' s s' : Int} (hh : h ≤ h') (hs : s ≤ s') : ∀ {k : Nat}, (k : Int) ≤ d → gr d h s k ≤ gr d h' s' k
  | 0, _ => Int.le_refl _
  | k + 1, hk => by
    rw [gr, gr]
    have h1 := gr_mono hh hs (d := d) (k := k) (by omega)
    have h2 : s * (d - k) ≤ s' * (d - k) := Int.mul_le_mul_of_nonneg_right hs (by omega)
    omega
/-- the search of the halves: low and high among the slots, with what is known of them -/
structure Bs (F : Int → Prop) (top low high : Int) : Prop where
  l0 : 0 ≤ low
  lh : low ≤ high
  ht : high ≤ top
  hi : F high
  lo : ∀ x, 0 ≤ x → x < low → ¬ F x
theorem Bs.up {F : Int → Prop} {top low high : Int} (b : Bs F top low high) (h : low < high) (hf : F ((low + high) / 2)) : Bs F top low ((low + high) / 2) :=
  ⟨b.l0, by omega, by have := b.ht; omega, hf, b.lo⟩
theorem Bs.down {F : Int → Prop} {top low high : Int} (mono : ∀ x y, x ≤ y → F x → F y) (b : Bs F top low high) (h : low < high) (hf : ¬ F ((low + high) / 2)) : Bs F top ((low + high) / 2 + 1) high :=
  ⟨by have := b.l0; omega, by omega, b.ht, b.hi, fun x h0 h1 hx => hf (mono _ _ (by omega) hx)⟩
theorem half {low high : Int} {n : Nat} (h : low < high) (hn : high - low < 2 ^ (n + 1)) : (low + high) / 2 - low < 2 ^ n ∧ high - ((low + high) / 2 + 1) < 2 ^ n := by
  rw [Int.pow_succ] at hn
  omega
def I3 (n k' d f s : Int) (kk : Nat) (m : M) (j : Nat) (e : En) (m' : M) : Prop := ∃ (low high : Int) (sl : Option Sl), e = [some (.val (.tup [.int n, .int k', .int d])), some (.val (.int f)), some (.val (.int s)), some (.val (.int low)), some (.val (.int high)), sl] ∧ vf sl = true ∧ m' = m ∧ Bs (fun x => f ≤ gr d x s kk) (s * d) low high ∧ high - low < 2 ^ j
theorem r3 {n k' d f s : Int} {kk : Nat} (h1 : 1 ≤ k') (h2 : k' ≤ d) (h3 : d ≤ 8) (hk : k' = kk) (hs : 0 ≤ s) (hs2 : s ≤ 10 ^ 33) (hW : 150 ≤ W) :
    R.Wp (run W G (k + 2) 3 [.tup [.int n, .int k', .int d], .int f, .int s] m) (fun r m' => m' = m ∧ ((r = .non ∧ gr d (s * d) s kk < f) ∨ ∃ low, r = .int low ∧ 0 ≤ low ∧ low ≤ s * d ∧ f ≤ gr d low s kk ∧ ∀ x, 0 ≤ x → x < low → gr d x s kk < f)) X := by
  refine go rfl ?_
  have hkk : k'.toNat = kk := by omega
  have hsd : 0 ≤ s * d := Int.mul_nonneg hs (by omega)
  have hsd2 : s * d ≤ 10 ^ 33 * 8 := Int.mul_le_mul hs2 h3 (by omega) (by omega)
  simp_arith [c3, b64r (i := s) (j := d) (by omega) (by omega), ↓w2 h1 h2 h3, hkk]
  split
  · skip
    exact .inl (by assumption)
  · rename_i hf
    refine while_inv (I3 n k' d f s kk m) ?_ (show 120 < W by omega) ⟨0, s * d, none, rfl, rfl, rfl, ⟨by omega, by omega, by omega, by omega, fun x h0 h1 => by omega⟩, by omega⟩
    rintro j e m' ⟨low, high, sl, rfl, hv, rfl, b, hj⟩
    simp_arith [b64r (i := s) (j := d) (by omega) (by omega), ↓w2 h1 h2 h3, hkk, vf_free hv]
    split
    · rename_i hlh
      obtain _ | j := j
      · rw [Int.pow_zero] at hj; omega
      have hh := half hlh hj
      split
      · rename_i hm
        exact ⟨j, by omega, _, _, _, rfl, rfl, rfl, b.up hlh hm, hh.1⟩
      · rename_i hm
        exact ⟨j, by omega, _, _, _, rfl, rfl, rfl, b.down (fun x y hxy hx => Int.le_trans hx (gr_mono hxy (Int.le_refl _) (by omega))) hlh hm, hh.2⟩
    · have e : low = high := by have := b.lh; omega
      refine .inr ⟨low, rfl, b.l0, by rw [e]; exact b.ht, by rw [e]; exact b.hi, fun x h0 h1 => by have := b.lo x h0 h1; omega⟩
def I4 (n k' d f h : Int) (kk : Nat) (m : M) (j : Nat) (e : En) (m' : M) : Prop := ∃ (low high : Int) (sl : Option Sl), e = [some (.val (.tup [.int n, .int k', .int d])), some (.val (.int f)), some (.val (.int h)), some (.val (.int low)), some (.val (.int high)), sl] ∧ vf sl = true ∧ m' = m ∧ Bs (fun x => f ≤ gr d h x kk) h low high ∧ high - low < 2 ^ j
theorem r4 {n k' d f h : Int} {kk : Nat} (h1 : 1 ≤ k') (h2 : k' ≤ d) (h3 : d ≤ 8) (hk : k' = kk) (hs : 0 ≤ h) (hs2 : h ≤ 10 ^ 33) (hW : 150 ≤ W) :
    R.Wp (run W G (k + 2) 4 [.tup [.int n, .int k', .int d], .int f, .int h] m) (fun r m' => m' = m ∧ ((r = .non ∧ gr d h h kk < f) ∨ ∃ low, r = .int low ∧ 0 ≤ low ∧ low ≤ h ∧ f ≤ gr d h low kk ∧ ∀ x, 0 ≤ x → x < low → gr d h x kk < f)) X := by
  refine go rfl ?_
  have hkk : k'.toNat = kk := by omega
  simp_arith [c4, ↓w2 h1 h2 h3, hkk]
  split
  · skip
    exact .inl (by assumption)
  · rename_i hf
    refine while_inv (I4 n k' d f h kk m) ?_ (show 120 < W by omega) ⟨0, h, none, rfl, rfl, rfl, ⟨by omega, by omega, by omega, by omega, fun x h0 h1 => by omega⟩, by omega⟩
    rintro j e m' ⟨low, high, sl, rfl, hv, rfl, b, hj⟩
    simp_arith [↓w2 h1 h2 h3, hkk, vf_free hv]
    split
    · rename_i hlh
      obtain _ | j := j
      · rw [Int.pow_zero] at hj; omega
      have hh := half hlh hj
      split
      · rename_i hm
        exact ⟨j, by omega, _, _, _, rfl, rfl, rfl, b.up hlh hm, hh.1⟩
      · rename_i hm
        exact ⟨j, by omega, _, _, _, rfl, rfl, rfl, b.down (fun x y hxy hx => Int.le_trans hx (gr_mono (Int.le_refl _) hxy (by omega))) hlh hm, hh.2⟩
    · have e : low = high := by have := b.lh; omega
      refine .inr ⟨low, rfl, b.l0, by rw [e]; exact b.ht, by rw [e]; exact b.hi, fun x h0 h1 => by have := b.lo x h0 h1; omega⟩
end
end Rw

namespace Rw
open Rf
local macro_rules
  | `(tactic| simp_arith [$as,*]) => `(tactic| simp only [↓w_ok, ↓w_exc, ↓w_bind, ↓w_toO, ↓w_obind, ↓w_ite, ↓w_oite, ↓optW_some, ↓optW_none, ↓blW_bl, ↓intW_i, ↓lstW_l, ↓vw0, ↓vwS, ↓bw0, ↓bw0o, ↓bw0l, ↓bwS, en_free0, en_free0v, en_free0o, en_freeS, ↓ownW0, ↓ownWS, en_setZ, en_setS, ↓w_var, ↓w_bor, ↓w_con, ↓w_op, ↓w_nil, ↓w_cons, ↓w_and, ↓w_or, ↓w_eite, ↓w_chain, ↓w_chain3, ↓w_slc, ↓isTyW_str, ↓w_meth, ↓strW_s, ↓w_js, ↓w_jsn, ↓w_jsc, ↓w_call, ↓w_callv, ↓w_newM, ↓w_comp, ↓w_one, ↓w_refused, ↓w_nm, ↓w_tp, ↓w_tp0, ↓w_tpS, ↓w_wipe0, ↓w_wipeS, vfAt0, vfAtS, vf0, vf1, ↓s_set, ↓s_own', ↓frzW0, ↓frzW0v, ↓frzWS, ↓s_frz, ↓s_setIx, ↓s_msetIx, ↓s_append, ↓s_pop, ↓s_ex, ↓s_if, ↓w_fone, ↓s_for, ↓s_forOwn, ↓s_while, ↓s_ret, ↓s_retN, ↓s_raise, ↓s_pass, ↓s_tryN, ↓ss_nil, ↓ss_cons, mkEnv_c, mkEnv_z, mkEnv_s, ↓o_add, ↓o_addS, ↓o_addL, ↓o_addT, ↓o_sub, ↓o_mul, ↓o_mulL, ↓o_mulT, ↓o_fdiv, ↓o_mod, ↓o_pow, ↓o_neg, ↓o_not, ↓o_split, ↓o_fstrI, ↓o_fstrS, ↓o_strI, ↓o_intS, ↓o_inS, ↓o_ninS, ↓o_ixS0, ↓o_ixS1, ↓o_sortset, ↓o_sorted, ↓o_eqI, ↓o_neI, ↓o_eqS, ↓o_neS, ↓o_eqB, ↓o_eqL0, ↓o_neL0, ↓o_eqT0, ↓o_neT0, ↓o_neB, ↓o_lt, ↓o_le, ↓o_gt, ↓o_ge, ↓o_isN, ↓o_notN, ↓o_isB, ↓o_notB, ↓o_inL, ↓o_inT, ↓o_ninL, ↓o_ninT, ↓at0, ↓at1, ↓at2, ↓at3, ↓at4, ↓o_ixL, ↓o_ixT, ↓o_ixM, ↓o_slFL, ↓o_slFT, ↓o_slFS, ↓o_slTL, ↓o_slTT, ↓o_slTS, ↓o_lenL, ↓o_lenT, ↓o_lenS, ↓o_lenC, ↓o_intI, ↓o_intB, ↓o_min2, ↓o_max2, ↓o_sum, ↓o_all, ↓o_listL, ↓o_listT, ↓o_tupleL, ↓o_tupleT, ↓o_tupR, ↓o_listR, ↓ty_int_n, ↓ty_int_b, ↓ty_int_i, ↓ty_int_s, ↓ty_int_t, ↓ty_int_l, ↓ty_bool_n, ↓ty_bool_b, ↓ty_bool_i, ↓ty_bool_s, ↓ty_bool_t, ↓ty_bool_l, ↓ty_str_n, ↓ty_str_b, ↓ty_str_i, ↓ty_str_s, ↓ty_str_t, ↓ty_str_l, ↓ty_tuple_n, ↓ty_tuple_b, ↓ty_tuple_i, ↓ty_tuple_s, ↓ty_tuple_t, ↓ty_tuple_l, ↓ty_list_n, ↓ty_list_b, ↓ty_list_i, ↓ty_list_s, ↓ty_list_t, ↓ty_list_l, ↓o_bool, ↓o_tup, ↓o_lst, ↓o_range1, ↓o_range2, ↓o_range3, ↓o_zipLL, ↓o_zipTT, ↓o_zipLT, ↓o_zipTL, ↓o_enumL, ↓o_enumT, dp_non, dp_bl, dp_int, dp_str, dp_tup, dp_lst, dps_nil, dps_cons, Bool.and_true, Bool.true_and, lim_le, lim_lt, lg2, lg11, ↓itw_l, ↓itw_t, ↓itw_s, non_n, non_b, non_i, non_s, non_t, non_l, bq_tt, bq_tf, bq_ft, bq_ff, true_and, and_true, if_true, if_false, reduceIte, Bool.not_true, Bool.not_false, Bool.false_eq_true, reduceCtorEq, List.length_cons, List.length_nil, Int.cast_ofNat_Int, Nat.reduceAdd, Nat.reduceSub, decide_eq_true_eq, Bool.not_eq_true', decide_eq_false_iff_not, not_false_eq_true, not_true_eq_false, decide_true, decide_false, Int.reduceEq, Int.reduceNe, Int.reduceLT, Int.reduceLE, Int.reduceGT, Int.reduceGE, Int.reduceNeg, Int.reduceAdd, Int.reduceSub, Int.reduceMul, Int.reduceDiv, Int.reduceMod, Int.reducePow, Int.reduceToNat, Nat.reduceMul, Nat.reduceEqDiff, Nat.reduceLeDiff, Nat.reduceLT, Nat.reduceGT, Nat.reducePow, $as,*])
local macro_rules
  | `(tactic| simp_arith! [$as,*]) => `(tactic| try simp_arith [$as,*])
open Cr
section
variable {W k n : Nat} {m : M} {ds : List D} {V : D → M → Prop} {X : Nat → M → Prop}
/-! fractions -/
def I5 (a b : Nat) (m : M) (j : Nat) (e : En) (m' : M) : Prop := ∃ x y : Nat, e = [some (.val (.int a)), some (.val (.int b)), some (.val (.int x)), some (.val (.int y))] ∧ m' = m ∧ y ≤ j ∧ Nat.gcd x y = Nat.gcd a b ∧ 0 < x
def lowD (a b : Nat) : D := .tup [.int ((a / Nat.gcd a b : Nat) : Int), .int ((b / Nat.gcd a b : Nat) : Int)]
theorem r5 {a b : Nat} (ha : 0 < a) (hb : b < W) (hl : a < 1000) : run W G (k + 1) 5 [.int a, .int b] m = .ok (lowD a b) m := by
  refine run_ok (go rfl ?_)
  simp_arith [c5]
  refine while_inv (I5 a b m) ?_ hb ⟨a, b, rfl, rfl, Nat.le_refl _, rfl, ha⟩
  rintro j e m' ⟨x, y, rfl, rfl, hy, hg, hx⟩
  simp_arith []
  split
  · rename_i hn
    have hy0 : 0 < y := by omega
    refine ⟨by omega, x % y, by have := Nat.mod_lt x hy0; omega, y, x % y, by rw [Int.natCast_emod], rfl, by omega, ?_, hy0⟩
    rw [← hg, Nat.gcd_comm x y, Nat.gcd_rec y x, Nat.gcd_comm]
  · rename_i hn
    have hy0 : y = 0 := by omega
    subst hy0
    rw [Nat.gcd_zero_right] at hg
    have hx2 : x < 1000 := by
      have := Nat.gcd_le_left b ha
      omega
    have hlg : ((x : Int).natAbs).log2 < 9000 := by
      rw [Int.natAbs_natCast]
      exact Nat.lt_of_le_of_lt (Nat.log2_le_self x) (by omega)
    refine ⟨by omega, hlg, by omega, hlg, ?_⟩
    unfold lowD
    rw [hg, Int.natCast_ediv, Int.natCast_ediv]
theorem w5 {a b : Int} (ha : 0 < a) (hl : a < 1000) (hb : 0 ≤ b) (hb2 : b < W) : R.Wp (run W G (k + 1) 5 [.int a, .int b] m) V X = V (lowD a.toNat b.toNat) m := by
  rw [show a = (a.toNat : Nat) by omega, show b = (b.toNat : Nat) by omega, r5 (by omega) (by omega) (by omega)]
  exact w_ok
theorem w6 {v : D} (hv : v.pure = true) : R.Wp (run W G (k + 3) 6 [v] m) V X = if isPlan v then V .non m else X 1 m := by
  rw [w_run rfl]
  simp_arith [c6, r1 hv]
  cases isPlan v <;> simp
theorem w7 {v : D} (hv : v.pure = true) : R.Wp (run W G (k + 2) 7 [v] m) V X = if isInt v 0 1000000000000000000000000000000 then V .non m else X 2 m := by
  rw [w_run rfl]
  simp_arith [c7, r0 hv]
  cases isInt v 0 1000000000000000000000000000000 <;> simp
theorem w8 {v : D} (hv : v.pure = true) : R.Wp (run W G (k + 2) 8 [v] m) V X = if isInt v 0 1000000000000000000000000000000 then V .non m else X 3 m := by
  rw [w_run rfl]
  simp_arith [c8, r0 hv]
  cases isInt v 0 1000000000000000000000000000000 <;> simp
theorem w9 {v : D} (hv : v.pure = true) : R.Wp (run W G (k + 2) 9 [v] m) V X = if isInt v 0 100000000000000000000000000000000 then V .non m else X 4 m := by
  rw [w_run rfl]
  simp_arith [c9, r0 hv]
  cases isInt v 0 100000000000000000000000000000000 <;> simp
theorem w10 {v : D} (hv : v.pure = true) : R.Wp (run W G (k + 3) 10 [v] m) V X = V (.bl (isPlan v)) m := by
  rw [w_run rfl]
  simp_arith [c10, r1 hv]
theorem w11 {p h s : D} (hp : p.pure = true) (hh : h.pure = true) (hs : s.pure = true) : R.Wp (run W G (k + 4) 11 [p, h, s] m) V X =
    if isPlan p then (if isInt h 0 1000000000000000000000000000000 then (if isInt s 0 1000000000000000000000000000000 then R.Wp (run W G (k + 3) 2 [p, h, s] m) V X else X 3 m) else X 2 m) else X 1 m := by
  rw [w_run rfl]
  simp_arith [c11, ↓w6 hp, ↓w7 hh, ↓w8 hs]
theorem w12 {p f s : D} (hp : p.pure = true) (hf : f.pure = true) (hs : s.pure = true) : R.Wp (run W G (k + 4) 12 [p, f, s] m) V X =
    if isPlan p then (if isInt f 0 100000000000000000000000000000000 then (if isInt s 0 1000000000000000000000000000000 then R.Wp (run W G (k + 3) 3 [p, f, s] m) V X else X 3 m) else X 4 m) else X 1 m := by
  rw [w_run rfl]
  simp_arith [c12, ↓w6 hp, ↓w9 hf, ↓w8 hs]
theorem w13 {p f h : D} (hp : p.pure = true) (hf : f.pure = true) (hh : h.pure = true) : R.Wp (run W G (k + 4) 13 [p, f, h] m) V X =
    if isPlan p then (if isInt f 0 100000000000000000000000000000000 then (if isInt h 0 1000000000000000000000000000000 then R.Wp (run W G (k + 3) 4 [p, f, h] m) V X else X 2 m) else X 4 m) else X 1 m := by
  rw [w_run rfl]
  simp_arith [c13, ↓w6 hp, ↓w9 hf, ↓w7 hh]
/-! corners -/
theorem gr1_pos {d : Int} {x : Int} (hx : 1 ≤ x) : ∀ {k : Nat}, 1 ≤ k → (k : Int) ≤ d → 1 ≤ gr d x 1 k
  | 1, _, h => by simp [gr]; omega
  | k + 2, _, h => by
    rw [gr]
    have := gr1_pos hx (d := d) (k := k + 1) (by omega) (by omega)
    omega
theorem gr1_le {d x : Int} (hx : 1 ≤ x) (hx2 : x ≤ 8) : ∀ {k : Nat}, gr d x 1 k ≤ 8 * k
  | 0 => by simp [gr]
  | k + 1 => by
    rw [gr]
    have := gr1_le hx hx2 (d := d) (k := k)
    omega
/-- a corner -/
def cornerD (d : Int) (kk : Nat) (a : Nat) : D := .tup [lowD (d - a).toNat (gr d (d - a) 1 kk).toNat, lowD 1 (gr d (d - a) 1 kk).toNat]
theorem range3_map {n : Nat} : rangeL ((n : Int) - 1) n (-1) = (List.range n).reverse.map fun (k : Nat) => D.int k := by
  have : ∀ n : Nat, rangeL ((n : Int) - 1) n (-1) = (List.range n).reverse.map fun (k : Nat) => D.int k := by
    intro n
    induction n with
    | zero => rfl
    | succ n ih =>
      rw [rangeL_succ, List.range_succ, List.reverse_append, List.reverse_singleton, List.singleton_append, List.map_cons, ← ih]
      congr 1
      · congr 1; omega
      · congr 1; omega
  exact this n
def I14 (n k' d : Int) (kk : Nat) (m : M) (r : List D) (e : En) (m' : M) : Prop := ∃ (rr : List Nat) (xs : List D) (s2 s3 s4 : Option Sl), r = rr.map (fun (a : Nat) => D.int a) ∧ (∀ a, a ∈ rr → a < kk) ∧ xs.length + rr.length = kk ∧ e = [some (.val (.tup [.int n, .int k', .int d])), some (.own xs), s2, s3, s4] ∧ vf s2 = true ∧ vf s3 = true ∧ vf s4 = true ∧ m' = m ∧ xs ++ rr.map (cornerD d kk) = (List.range kk).reverse.map (cornerD d kk)
theorem w14 {n k' d : Int} {kk : Nat} (h1 : 1 ≤ k') (h2 : k' ≤ d) (h3 : d ≤ 8) (hk : k' = kk) (hp : isPlan (.tup [.int n, .int k', .int d]) = true) (hW : 150 ≤ W) : R.Wp (run W G (k + 4) 14 [.tup [.int n, .int k', .int d]] m) V X = V (.lst ((List.range kk).reverse.map (cornerD d kk))) m := by
  have : run W G (k + 4) 14 [.tup [.int n, .int k', .int d]] m = .ok (.lst ((List.range kk).reverse.map (cornerD d kk))) m := by
    refine run_ok (go rfl ?_)
    have e : (k' - 1 - -1).toNat = kk := by omega
    simp_arith [c14, ↓w6 (show (D.tup [.int n, .int k', .int d]).pure = true from rfl), hp, small62_of (i := k' - 1) (by omega) (by omega), (show small62 (-1) = true from rfl), e]
    refine ⟨by show kk ≤ 16777216; omega, ?_⟩
    rw [show k' - 1 = (kk : Int) - 1 by omega, range3_map]
    refine for_inv (I14 n k' d kk m) ?_ ?_ ⟨(List.range kk).reverse, [], none, none, none, rfl, fun a ha => by simpa using ha, by simp, rfl, rfl, rfl, rfl, rfl, rfl⟩
    · rintro x r e m' ⟨rr, xs, s2, s3, s4, hr, ha, hl, rfl, v2, v3, v4, rfl, hx⟩
      obtain _ | ⟨a, rr⟩ := rr
      · cases hr
      · rw [List.map_cons] at hr
        cases hr
        have ha1 := ha a (.head _)
        have g1 := gr1_pos (d := d) (x := d - a) (by omega) (k := kk) (by omega) (by omega)
        have g2 := gr1_le (d := d) (x := d - a) (by omega) (by omega) (k := kk)
        have e1 : d - (a : Int) = ((d - a).toNat : Nat) := by omega
        have e2 : gr d (d - a) 1 kk = ((gr d (d - a) 1 kk).toNat : Nat) := by omega
        simp_arith [vf_free v2, vf_free v3, vf_free v4, ↓w2 h1 h2 h3, show k'.toNat = kk by omega, ↓w5 (W := W) (a := d - a) (b := gr d (d - a) 1 kk) (by omega) (by omega) (by omega) (by omega), ↓w5 (W := W) (a := 1) (b := gr d (d - a) 1 kk) (by omega) (by omega) (by omega) (by omega)]
        refine ⟨by show xs.length < 16777216; omega, rr, _, _, _, _, rfl, fun a ha' => ha a (.tail _ ha'), ?_, rfl, rfl, rfl, rfl, rfl, ?_⟩
        · simp only [List.length_append, List.length_cons, List.length_nil] at hl ⊢
          omega
        · rw [← hx, List.append_assoc]
          rfl
    · rintro e m' ⟨rr, xs, s2, s3, s4, hr, ha, hl, rfl, v2, v3, v4, rfl, hx⟩
      obtain _ | ⟨a, rr⟩ := rr
      · simp_arith []
        rw [← hx]
        simp
      · cases hr
  rw [this]; exact w_ok
end
end Rw

namespace Rw
open Rf
local macro_rules
  | `(tactic| simp_arith [$as,*]) => `(tactic| simp only [↓w_ok, ↓w_exc, ↓w_bind, ↓w_toO, ↓w_obind, ↓w_ite, ↓w_oite, ↓optW_some, ↓optW_none, ↓blW_bl, ↓intW_i, ↓lstW_l, ↓vw0, ↓vwS, ↓bw0, ↓bw0o, ↓bw0l, ↓bwS, en_free0, en_free0v, en_free0o, en_freeS, ↓ownW0, ↓ownWS, en_setZ, en_setS, ↓w_var, ↓w_bor, ↓w_con, ↓w_op, ↓w_nil, ↓w_cons, ↓w_and, ↓w_or, ↓w_eite, ↓w_chain, ↓w_chain3, ↓w_slc, ↓isTyW_str, ↓w_meth, ↓strW_s, ↓w_js, ↓w_jsn, ↓w_jsc, ↓w_call, ↓w_callv, ↓w_newM, ↓w_comp, ↓w_one, ↓w_refused, ↓w_nm, ↓w_tp, ↓w_tp0, ↓w_tpS, ↓w_wipe0, ↓w_wipeS, vfAt0, vfAtS, vf0, vf1, ↓s_set, ↓s_own', ↓frzW0, ↓frzW0v, ↓frzWS, ↓s_frz, ↓s_setIx, ↓s_msetIx, ↓s_append, ↓s_pop, ↓s_ex, ↓s_if, ↓w_fone, ↓s_for, ↓s_forOwn, ↓s_while, ↓s_ret, ↓s_retN, ↓s_raise, ↓s_pass, ↓s_tryN, ↓ss_nil, ↓ss_cons, mkEnv_c, mkEnv_z, mkEnv_s, ↓o_add, ↓o_addS, ↓o_addL, ↓o_addT, ↓o_sub, ↓o_mul, ↓o_mulL, ↓o_mulT, ↓o_fdiv, ↓o_mod, ↓o_pow, ↓o_neg, ↓o_not, ↓o_split, ↓o_fstrI, ↓o_fstrS, ↓o_strI, ↓o_intS, ↓o_inS, ↓o_ninS, ↓o_ixS0, ↓o_ixS1, ↓o_sortset, ↓o_sorted, ↓o_eqI, ↓o_neI, ↓o_eqS, ↓o_neS, ↓o_eqB, ↓o_eqL0, ↓o_neL0, ↓o_eqT0, ↓o_neT0, ↓o_neB, ↓o_lt, ↓o_le, ↓o_gt, ↓o_ge, ↓o_isN, ↓o_notN, ↓o_isB, ↓o_notB, ↓o_inL, ↓o_inT, ↓o_ninL, ↓o_ninT, ↓at0, ↓at1, ↓at2, ↓at3, ↓at4, ↓o_ixL, ↓o_ixT, ↓o_ixM, ↓o_slFL, ↓o_slFT, ↓o_slFS, ↓o_slTL, ↓o_slTT, ↓o_slTS, ↓o_lenL, ↓o_lenT, ↓o_lenS, ↓o_lenC, ↓o_intI, ↓o_intB, ↓o_min2, ↓o_max2, ↓o_sum, ↓o_all, ↓o_listL, ↓o_listT, ↓o_tupleL, ↓o_tupleT, ↓o_tupR, ↓o_listR, ↓ty_int_n, ↓ty_int_b, ↓ty_int_i, ↓ty_int_s, ↓ty_int_t, ↓ty_int_l, ↓ty_bool_n, ↓ty_bool_b, ↓ty_bool_i, ↓ty_bool_s, ↓ty_bool_t, ↓ty_bool_l, ↓ty_str_n, ↓ty_str_b, ↓ty_str_i, ↓ty_str_s, ↓ty_str_t, ↓ty_str_l, ↓ty_tuple_n, ↓ty_tuple_b, ↓ty_tuple_i, ↓ty_tuple_s, ↓ty_tuple_t, ↓ty_tuple_l, ↓ty_list_n, ↓ty_list_b, ↓ty_list_i, ↓ty_list_s, ↓ty_list_t, ↓ty_list_l, ↓o_bool, ↓o_tup, ↓o_lst, ↓o_range1, ↓o_range2, ↓o_range3, ↓o_zipLL, ↓o_zipTT, ↓o_zipLT, ↓o_zipTL, ↓o_enumL, ↓o_enumT, dp_non, dp_bl, dp_int, dp_str, dp_tup, dp_lst, dps_nil, dps_cons, Bool.and_true, Bool.true_and, lim_le, lim_lt, lg2, lg11, ↓itw_l, ↓itw_t, ↓itw_s, non_n, non_b, non_i, non_s, non_t, non_l, bq_tt, bq_tf, bq_ft, bq_ff, true_and, and_true, if_true, if_false, reduceIte, Bool.not_true, Bool.not_false, Bool.false_eq_true, reduceCtorEq, List.length_cons, List.length_nil, Int.cast_ofNat_Int, Nat.reduceAdd, Nat.reduceSub, decide_eq_true_eq, Bool.not_eq_true', decide_eq_false_iff_not, not_false_eq_true, not_true_eq_false, decide_true, decide_false, Int.reduceEq, Int.reduceNe, Int.reduceLT, Int.reduceLE, Int.reduceGT, Int.reduceGE, Int.reduceNeg, Int.reduceAdd, Int.reduceSub, Int.reduceMul, Int.reduceDiv, Int.reduceMod, Int.reducePow, Int.reduceToNat, Nat.reduceMul, Nat.reduceEqDiff, Nat.reduceLeDiff, Nat.reduceLT, Nat.reduceGT, Nat.reducePow, $as,*])
local macro_rules
  | `(tactic| simp_arith! [$as,*]) => `(tactic| try simp_arith [$as,*])
open Cr
section
variable {W k n : Nat} {m : M} {ds : List D} {V : D → M → Prop} {X : Nat → M → Prop}
theorem eq_of_run {r : R D} {d : D} {m : M} (h : R.Wp r (fun d' m' => d' = d ∧ m' = m) noX) {V : D → M → Prop} {X : Nat → M → Prop} : R.Wp r V X = V d m := by
  rw [run_ok h]; exact w_ok
theorem w25 {v : D} (hv : v.pure = true) : R.Wp (run W G (k + 2) 25 [v] m) V X = V (.bl (isPlan v)) m := by
  refine eq_of_run (go rfl ?_)
  cases v <;> simp only [D.pure] at hv <;> first | cases hv | skip
  case tup xs =>
    by_cases hl : xs.length = 3
    · rcases xs with _ | ⟨a, _ | ⟨b, _ | ⟨c, _ | ⟨d, r⟩⟩⟩⟩ <;> simp at hl
      have hp := hv
      simp only [D.pures, Bool.and_eq_true] at hv
      obtain ⟨h1, h2, h3, _⟩ := hv
      simp_arith [c25]
      have e : ([a, b, c] : List D) = [a, b, c].map id := rfl
      rw [e]
      refine comp_filt id (fun x => !isInt x 1 8) id _ (fun x hx => ?_) ?_
      · have hx' : x.pure = true := by simp at hx; rcases hx with rfl | rfl | rfl <;> assumption
        simp_arith [r19 hx', id]
        cases isInt x 1 8 <;> simp
      · have hq : D.pures (List.map id (List.filter (fun x => !isInt x 1 8) [a, b, c])) = true := by
          rw [List.map_id]
          exact pures_iff.mpr fun x hx => pures_iff.mp hp x ((List.mem_filter.mp hx).1)
        simp_arith [hq]
        cases ha : isInt a 1 8 <;> cases hb : isInt b 1 8 <;> cases hc : isInt c 1 8
        case true.true.true =>
          obtain ⟨i, rfl, i1, i2⟩ := isInt_ex ha
          obtain ⟨j, rfl, j1, j2⟩ := isInt_ex hb
          obtain ⟨l, rfl, l1, l2⟩ := isInt_ex hc
          have hpl : isPlan (.tup [.int i, .int j, .int l]) = decide (j ≤ l ∧ l < i) := by
            unfold isPlan
            rw [decide_eq_decide]
            omega
          simp_arith [List.map_id, List.filter_cons, List.filter_nil, ha, hb, hc, hpl]
          split <;> simp [*]
        all_goals
          have hpl : isPlan (.tup [a, b, c]) = false := by
            unfold isPlan
            split
            · rename_i e
              cases e
              simp only [isInt, decide_eq_true_eq, decide_eq_false_iff_not] at ha hb hc
              rw [decide_eq_false_iff_not]
              omega
            · rfl
          simp_arith [List.map_id, List.filter_cons, List.filter_nil, ha, hb, hc, hpl]
    · have : ¬ ((xs.length : Nat) : Int) = 3 := by omega
      simp_arith [c25, this, isPlan_len hl]
  all_goals simp_arith [c25, isPlan]
theorem rangeL_of {lo : Int} {n : Nat} : rangeL lo n 1 = (List.range n).map fun (j : Nat) => D.int (lo + j) := by
  unfold rangeL
  refine List.map_congr_left fun a _ => ?_
  congr 1
  omega
theorem w30 {a b : Nat} (ha : 0 < a) (hb : 0 < b) (ha2 : a < 1000) (hb2 : b < 1000) : R.Wp (run W G (k + 1) 30 [lowD a b, .int a, .int b] m) V X = V (.bl true) m := by
  refine eq_of_run (go rfl ?_)
  have g0 : 0 < a.gcd b := Nat.gcd_pos_of_pos_left _ ha
  have e1 : a = a.gcd b * (a / a.gcd b) := (Nat.mul_div_cancel' (Nat.gcd_dvd_left a b)).symm
  have e2 : b = a.gcd b * (b / a.gcd b) := (Nat.mul_div_cancel' (Nat.gcd_dvd_right a b)).symm
  have co : Nat.gcd (a / a.gcd b) (b / a.gcd b) = 1 := by
    have := Nat.gcd_mul_left (a.gcd b) (a / a.gcd b) (b / a.gcd b)
    rw [← e1, ← e2] at this
    exact (Nat.mul_left_cancel g0 (by rw [Nat.mul_one]; exact this)).symm
  have y0 : 0 < b / a.gcd b := by
    rcases Nat.eq_zero_or_pos (b / a.gcd b) with q | q
    · rw [q, Nat.mul_zero] at e2; omega
    · exact q
  have hxy : a / a.gcd b * b = b / a.gcd b * a := by
    have h1 : a / a.gcd b * b = a / a.gcd b * (a.gcd b * (b / a.gcd b)) := congrArg _ e2
    have h2 : b / a.gcd b * a = b / a.gcd b * (a.gcd b * (a / a.gcd b)) := congrArg _ e1
    rw [h1, h2, Nat.mul_left_comm, Nat.mul_left_comm (b / a.gcd b), Nat.mul_comm (a / a.gcd b)]
  simp_arith [c30, lowD, b64r (i := ((a / a.gcd b : Nat) : Int)) (j := (b : Int)) (by omega) (by omega), b64r (i := ((b / a.gcd b : Nat) : Int)) (j := (a : Int)) (by omega) (by omega), (show small62 2 = true from rfl), (show small62 60 = true from rfl)]
  generalize a / a.gcd b = x at *
  generalize b / a.gcd b = y at *
  have hxy2 : (x : Int) * b = y * a := by exact_mod_cast hxy
  simp_arith [hxy2]
  rw [rangeL_of]
  have hno : ∀ j : Nat, (decide ((x : Int) % (2 + (j : Int)) = 0) && decide ((y : Int) % (2 + (j : Int)) = 0)) = false := by
    intro j
    rw [show (2 + (j : Int)) = ((2 + j : Nat) : Int) by omega, ← Int.natCast_emod, ← Int.natCast_emod, Bool.and_eq_false_iff, decide_eq_false_iff_not, decide_eq_false_iff_not]
    rcases Nat.eq_zero_or_pos (x % (2 + j)) with hx | hx
    · right
      intro hy
      have hy : y % (2 + j) = 0 := by exact_mod_cast hy
      have := Nat.dvd_gcd (Nat.dvd_of_mod_eq_zero hx) (Nat.dvd_of_mod_eq_zero hy)
      rw [co] at this
      have := Nat.le_of_dvd (by omega) this
      omega
    · left
      intro hx2
      have hx2 : x % (2 + j) = 0 := by exact_mod_cast hx2
      omega
  refine comp_filt (fun j : Nat => D.int (2 + j)) (fun j => decide ((x : Int) % (2 + (j : Int)) = 0) && decide ((y : Int) % (2 + (j : Int)) = 0)) (fun j => .int (2 + j)) _ (fun j hj => ?_) ?_
  · simp_arith [show (0 : Int) < 2 + (j : Int) by omega]
    by_cases h1 : (x : Int) % (2 + (j : Int)) = 0 <;> by_cases h2 : (y : Int) % (2 + (j : Int)) = 0 <;> simp [h1, h2]
  · rw [show (fun j : Nat => decide ((x : Int) % (2 + (j : Int)) = 0) && decide ((y : Int) % (2 + (j : Int)) = 0)) = fun _ => false from funext hno]
    have e : (List.range 58).filter (fun _ => false) = [] := by simp
    simp_arith [e, List.map_nil, D.pures]
    simp; omega
end
end Rw

namespace Rw
open Rf
local macro_rules
  | `(tactic| simp_arith [$as,*]) => `(tactic| simp only [↓w_ok, ↓w_exc, ↓w_bind, ↓w_toO, ↓w_obind, ↓w_ite, ↓w_oite, ↓optW_some, ↓optW_none, ↓blW_bl, ↓intW_i, ↓lstW_l, ↓vw0, ↓vwS, ↓bw0, ↓bw0o, ↓bw0l, ↓bwS, en_free0, en_free0v, en_free0o, en_freeS, ↓ownW0, ↓ownWS, en_setZ, en_setS, ↓w_var, ↓w_bor, ↓w_con, ↓w_op, ↓w_nil, ↓w_cons, ↓w_and, ↓w_or, ↓w_eite, ↓w_chain, ↓w_chain3, ↓w_slc, ↓isTyW_str, ↓w_meth, ↓strW_s, ↓w_js, ↓w_jsn, ↓w_jsc, ↓w_call, ↓w_callv, ↓w_newM, ↓w_comp, ↓w_one, ↓w_refused, ↓w_nm, ↓w_tp, ↓w_tp0, ↓w_tpS, ↓w_wipe0, ↓w_wipeS, vfAt0, vfAtS, vf0, vf1, ↓s_set, ↓s_own', ↓frzW0, ↓frzW0v, ↓frzWS, ↓s_frz, ↓s_setIx, ↓s_msetIx, ↓s_append, ↓s_pop, ↓s_ex, ↓s_if, ↓w_fone, ↓s_for, ↓s_forOwn, ↓s_while, ↓s_ret, ↓s_retN, ↓s_raise, ↓s_pass, ↓s_tryN, ↓ss_nil, ↓ss_cons, mkEnv_c, mkEnv_z, mkEnv_s, ↓o_add, ↓o_addS, ↓o_addL, ↓o_addT, ↓o_sub, ↓o_mul, ↓o_mulL, ↓o_mulT, ↓o_fdiv, ↓o_mod, ↓o_pow, ↓o_neg, ↓o_not, ↓o_split, ↓o_fstrI, ↓o_fstrS, ↓o_strI, ↓o_intS, ↓o_inS, ↓o_ninS, ↓o_ixS0, ↓o_ixS1, ↓o_sortset, ↓o_sorted, ↓o_eqI, ↓o_neI, ↓o_eqS, ↓o_neS, ↓o_eqB, ↓o_eqL0, ↓o_neL0, ↓o_eqT0, ↓o_neT0, ↓o_neB, ↓o_lt, ↓o_le, ↓o_gt, ↓o_ge, ↓o_isN, ↓o_notN, ↓o_isB, ↓o_notB, ↓o_inL, ↓o_inT, ↓o_ninL, ↓o_ninT, ↓at0, ↓at1, ↓at2, ↓at3, ↓at4, ↓o_ixL, ↓o_ixT, ↓o_ixM, ↓o_slFL, ↓o_slFT, ↓o_slFS, ↓o_slTL, ↓o_slTT, ↓o_slTS, ↓o_lenL, ↓o_lenT, ↓o_lenS, ↓o_lenC, ↓o_intI, ↓o_intB, ↓o_min2, ↓o_max2, ↓o_sum, ↓o_all, ↓o_listL, ↓o_listT, ↓o_tupleL, ↓o_tupleT, ↓o_tupR, ↓o_listR, ↓ty_int_n, ↓ty_int_b, ↓ty_int_i, ↓ty_int_s, ↓ty_int_t, ↓ty_int_l, ↓ty_bool_n, ↓ty_bool_b, ↓ty_bool_i, ↓ty_bool_s, ↓ty_bool_t, ↓ty_bool_l, ↓ty_str_n, ↓ty_str_b, ↓ty_str_i, ↓ty_str_s, ↓ty_str_t, ↓ty_str_l, ↓ty_tuple_n, ↓ty_tuple_b, ↓ty_tuple_i, ↓ty_tuple_s, ↓ty_tuple_t, ↓ty_tuple_l, ↓ty_list_n, ↓ty_list_b, ↓ty_list_i, ↓ty_list_s, ↓ty_list_t, ↓ty_list_l, ↓o_bool, ↓o_tup, ↓o_lst, ↓o_range1, ↓o_range2, ↓o_range3, ↓o_zipLL, ↓o_zipTT, ↓o_zipLT, ↓o_zipTL, ↓o_enumL, ↓o_enumT, dp_non, dp_bl, dp_int, dp_str, dp_tup, dp_lst, dps_nil, dps_cons, Bool.and_true, Bool.true_and, lim_le, lim_lt, lg2, lg11, ↓itw_l, ↓itw_t, ↓itw_s, non_n, non_b, non_i, non_s, non_t, non_l, bq_tt, bq_tf, bq_ft, bq_ff, true_and, and_true, if_true, if_false, reduceIte, Bool.not_true, Bool.not_false, Bool.false_eq_true, reduceCtorEq, List.length_cons, List.length_nil, Int.cast_ofNat_Int, Nat.reduceAdd, Nat.reduceSub, decide_eq_true_eq, Bool.not_eq_true', decide_eq_false_iff_not, not_false_eq_true, not_true_eq_false, decide_true, decide_false, Int.reduceEq, Int.reduceNe, Int.reduceLT, Int.reduceLE, Int.reduceGT, Int.reduceGE, Int.reduceNeg, Int.reduceAdd, Int.reduceSub, Int.reduceMul, Int.reduceDiv, Int.reduceMod, Int.reducePow, Int.reduceToNat, Nat.reduceMul, Nat.reduceEqDiff, Nat.reduceLeDiff, Nat.reduceLT, Nat.reduceGT, Nat.reducePow, $as,*])
local macro_rules
  | `(tactic| simp_arith! [$as,*]) => `(tactic| try simp_arith [$as,*])
open Cr
section
variable {W k n : Nat} {m : M} {ds : List D} {V : D → M → Prop} {X : Nat → M → Prop}
theorem zip_map {γ : Type} {f g : γ → D} : ∀ {L : List γ}, zipD (L.map f) (L.map g) = L.map fun a => .tup [f a, g a]
  | [] => rfl
  | a :: L => by rw [List.map_cons, List.map_cons, zipD, zip_map, List.map_cons]
def I31 (n k' d : Int) (kk : Nat) (xs : List D) (m : M) (r : List D) (e : En) (m' : M) : Prop := ∃ (rr : List Nat) (s2 s3 s4 s5 : Option Sl), r = rr.map (fun (a : Nat) => D.tup [D.int a, cornerD d kk a]) ∧ (∀ a, a ∈ rr → a < kk) ∧ e = [some (.val (.tup [.int n, .int k', .int d])), some (.val (.lst xs)), s2, s3, s4, s5] ∧ vf s2 = true ∧ vf s3 = true ∧ vf s4 = true ∧ vf s5 = true ∧ m' = m
theorem w31 {n k' d : Int} {kk : Nat} (h1 : 1 ≤ k') (h2 : k' ≤ d) (h3 : d ≤ 8) (hk : k' = kk) (hp : isPlan (.tup [.int n, .int k', .int d]) = true) (hW : 150 ≤ W) : R.Wp (run W G (k + 5) 31 [.tup [.int n, .int k', .int d]] m) V X = V (.bl true) m := by
  refine eq_of_run (go rfl ?_)
  have e : (k' - 1 - -1).toNat = kk := by omega
  simp_arith [c31, ↓w14 h1 h2 h3 hk hp hW, List.length_map, List.length_reverse, List.length_range, small62_of (i := k' - 1) (by omega) (by omega), (show small62 (-1) = true from rfl), e, hk.symm]
  refine ⟨by show kk ≤ 16777216; omega, ?_⟩
  rw [show k' - 1 = (kk : Int) - 1 by omega, range3_map, zip_map]
  refine for_inv (I31 n k' d kk _ m) ?_ ?_ ⟨(List.range kk).reverse, none, none, none, none, rfl, fun a ha => by simpa using ha, rfl, rfl, rfl, rfl, rfl, rfl⟩
  · rintro x r e m' ⟨rr, s2, s3, s4, s5, hr, ha, rfl, v2, v3, v4, v5, rfl⟩
    obtain _ | ⟨a, rr⟩ := rr
    · cases hr
    · rw [List.map_cons] at hr
      cases hr
      have ha1 := ha a (.head _)
      have g1 := gr1_pos (d := d) (x := d - a) (by omega) (k := kk) (by omega) (by omega)
      have g2 := gr1_le (d := d) (x := d - a) (by omega) (by omega) (k := kk)
      have e1 : (((d - (a : Int)).toNat : Nat) : Int) = d - a := by omega
      have e2 : (((gr d (d - a) 1 kk).toNat : Nat) : Int) = gr d (d - a) 1 kk := by omega
      have q1 : ∀ {V : D → M → Prop} {X : Nat → M → Prop}, R.Wp (run W G (k + 4) 30 [lowD (d - (a : Int)).toNat (gr d (d - a) 1 kk).toNat, .int (d - a), .int (gr d (d - a) 1 kk)] m') V X = V (.bl true) m' := by
        intro V X
        have := w30 (W := W) (k := k + 3) (m := m') (V := V) (X := X) (a := (d - (a : Int)).toNat) (b := (gr d (d - a) 1 kk).toNat) (by omega) (by omega) (by omega) (by omega)
        rwa [e1, e2] at this
      have q2 : ∀ {V : D → M → Prop} {X : Nat → M → Prop}, R.Wp (run W G (k + 4) 30 [lowD 1 (gr d (d - a) 1 kk).toNat, .int 1, .int (gr d (d - a) 1 kk)] m') V X = V (.bl true) m' := by
        intro V X
        have := w30 (W := W) (k := k + 3) (m := m') (V := V) (X := X) (a := 1) (b := (gr d (d - a) 1 kk).toNat) (by omega) (by omega) (by omega) (by omega)
        rwa [e2] at this
      simp_arith [vf_free v2, vf_free v3, vf_free v4, vf_free v5, cornerD, ↓w27 h1 h2 h3, show k'.toNat = kk by omega, ↓q1, ↓q2]
      exact ⟨rr, _, _, _, _, rfl, fun a ha' => ha a (.tail _ ha'), rfl, rfl, rfl, rfl, rfl, rfl⟩
  · rintro e m' ⟨rr, s2, s3, s4, s5, hr, ha, rfl, v2, v3, v4, v5, rfl⟩
    simp_arith []
theorem w14n {v : D} (hv : v.pure = true) (h : isPlan v = false) : R.Wp (run W G (k + 4) 14 [v] m) V X = X 1 m := by
  rw [w_run rfl]
  simp_arith [c14, ↓w6 hv, h]
theorem w29 {v : D} (hv : v.pure = true) (hW : 150 ≤ W) : R.Wp (run W G (k + 6) 29 [v] m) V X = V (.bl true) m := by
  refine eq_of_run (go rfl ?_)
  simp_arith [c29, ↓w25 hv, ↓w10 hv, ↓w18, beq_self_eq_true]
  cases hp : isPlan v
  · simp_arith []
    have e : ([.fn 11, .fn 12, .fn 13] : List D) = [11, 12, 13].map D.fn := rfl
    rw [e]
    refine comp_map D.fn (fun _ => .str [112, 108, 97, 110]) _ (fun f hf => ?_) ?_
    · simp only [List.mem_cons, List.not_mem_nil, or_false] at hf
      rcases hf with rfl | rfl | rfl
      all_goals simp_arith [↓w20, ↓w11, ↓w12, ↓w13, hv, hp, errWord]
    · simp_arith [List.map_cons, List.map_nil, ↓w14n hv hp, errWord, (show small62 4 = true from rfl)]
      rw [o_eq]
      refine ⟨by decide +kernel, ?_⟩
      congr 1
  · obtain ⟨n, k', d, rfl, h1, h2, h3, h4, h5, h6⟩ := isPlan_ex hp
    simp_arith [↓w31 h5 h6 (by omega : d ≤ 8) (show k' = (k'.toNat : Nat) by omega) hp hW]
end
end Rw

namespace Rw
open Rf
local macro_rules
  | `(tactic| simp_arith [$as,*]) => `(tactic| simp only [↓w_ok, ↓w_exc, ↓w_bind, ↓w_toO, ↓w_obind, ↓w_ite, ↓w_oite, ↓optW_some, ↓optW_none, ↓blW_bl, ↓intW_i, ↓lstW_l, ↓vw0, ↓vwS, ↓bw0, ↓bw0o, ↓bw0l, ↓bwS, en_free0, en_free0v, en_free0o, en_freeS, ↓ownW0, ↓ownWS, en_setZ, en_setS, ↓w_var, ↓w_bor, ↓w_con, ↓w_op, ↓w_nil, ↓w_cons, ↓w_and, ↓w_or, ↓w_eite, ↓w_chain, ↓w_chain3, ↓w_slc, ↓isTyW_str, ↓w_meth, ↓strW_s, ↓w_js, ↓w_jsn, ↓w_jsc, ↓w_call, ↓w_callv, ↓w_newM, ↓w_comp, ↓w_one, ↓w_refused, ↓w_nm, ↓w_tp, ↓w_tp0, ↓w_tpS, ↓w_wipe0, ↓w_wipeS, vfAt0, vfAtS, vf0, vf1, ↓s_set, ↓s_own', ↓frzW0, ↓frzW0v, ↓frzWS, ↓s_frz, ↓s_setIx, ↓s_msetIx, ↓s_append, ↓s_pop, ↓s_ex, ↓s_if, ↓w_fone, ↓s_for, ↓s_forOwn, ↓s_while, ↓s_ret, ↓s_retN, ↓s_raise, ↓s_pass, ↓s_tryN, ↓ss_nil, ↓ss_cons, mkEnv_c, mkEnv_z, mkEnv_s, ↓o_add, ↓o_addS, ↓o_addL, ↓o_addT, ↓o_sub, ↓o_mul, ↓o_mulL, ↓o_mulT, ↓o_fdiv, ↓o_mod, ↓o_pow, ↓o_neg, ↓o_not, ↓o_split, ↓o_fstrI, ↓o_fstrS, ↓o_strI, ↓o_intS, ↓o_inS, ↓o_ninS, ↓o_ixS0, ↓o_ixS1, ↓o_sortset, ↓o_sorted, ↓o_eqI, ↓o_neI, ↓o_eqS, ↓o_neS, ↓o_eqB, ↓o_eqL0, ↓o_neL0, ↓o_eqT0, ↓o_neT0, ↓o_neB, ↓o_lt, ↓o_le, ↓o_gt, ↓o_ge, ↓o_isN, ↓o_notN, ↓o_isB, ↓o_notB, ↓o_inL, ↓o_inT, ↓o_ninL, ↓o_ninT, ↓at0, ↓at1, ↓at2, ↓at3, ↓at4, ↓o_ixL, ↓o_ixT, ↓o_ixM, ↓o_slFL, ↓o_slFT, ↓o_slFS, ↓o_slTL, ↓o_slTT, ↓o_slTS, ↓o_lenL, ↓o_lenT, ↓o_lenS, ↓o_lenC, ↓o_intI, ↓o_intB, ↓o_min2, ↓o_max2, ↓o_sum, ↓o_all, ↓o_listL, ↓o_listT, ↓o_tupleL, ↓o_tupleT, ↓o_tupR, ↓o_listR, ↓ty_int_n, ↓ty_int_b, ↓ty_int_i, ↓ty_int_s, ↓ty_int_t, ↓ty_int_l, ↓ty_bool_n, ↓ty_bool_b, ↓ty_bool_i, ↓ty_bool_s, ↓ty_bool_t, ↓ty_bool_l, ↓ty_str_n, ↓ty_str_b, ↓ty_str_i, ↓ty_str_s, ↓ty_str_t, ↓ty_str_l, ↓ty_tuple_n, ↓ty_tuple_b, ↓ty_tuple_i, ↓ty_tuple_s, ↓ty_tuple_t, ↓ty_tuple_l, ↓ty_list_n, ↓ty_list_b, ↓ty_list_i, ↓ty_list_s, ↓ty_list_t, ↓ty_list_l, ↓o_bool, ↓o_tup, ↓o_lst, ↓o_range1, ↓o_range2, ↓o_range3, ↓o_zipLL, ↓o_zipTT, ↓o_zipLT, ↓o_zipTL, ↓o_enumL, ↓o_enumT, dp_non, dp_bl, dp_int, dp_str, dp_tup, dp_lst, dps_nil, dps_cons, Bool.and_true, Bool.true_and, lim_le, lim_lt, lg2, lg11, ↓itw_l, ↓itw_t, ↓itw_s, non_n, non_b, non_i, non_s, non_t, non_l, bq_tt, bq_tf, bq_ft, bq_ff, true_and, and_true, if_true, if_false, reduceIte, Bool.not_true, Bool.not_false, Bool.false_eq_true, reduceCtorEq, List.length_cons, List.length_nil, Int.cast_ofNat_Int, Nat.reduceAdd, Nat.reduceSub, decide_eq_true_eq, Bool.not_eq_true', decide_eq_false_iff_not, not_false_eq_true, not_true_eq_false, decide_true, decide_false, Int.reduceEq, Int.reduceNe, Int.reduceLT, Int.reduceLE, Int.reduceGT, Int.reduceGE, Int.reduceNeg, Int.reduceAdd, Int.reduceSub, Int.reduceMul, Int.reduceDiv, Int.reduceMod, Int.reducePow, Int.reduceToNat, Nat.reduceMul, Nat.reduceEqDiff, Nat.reduceLeDiff, Nat.reduceLT, Nat.reduceGT, Nat.reducePow, $as,*])
local macro_rules
  | `(tactic| simp_arith! [$as,*]) => `(tactic| try simp_arith [$as,*])
open Cr
section
variable {W k n : Nat} {m : M} {ds : List D} {V : D → M → Prop} {X : Nat → M → Prop}
theorem gr_nonneg {d h s : Int} (hh : 0 ≤ h) (hs : 0 ≤ s) : ∀ {kk : Nat}, (kk : Int) ≤ d → 0 ≤ gr d h s kk
  | 0, _ => Int.le_refl _
  | kk + 1, hk => by
    rw [gr]
    have h1 := gr_nonneg hh hs (d := d) (kk := kk) (by omega)
    have h2 : 0 ≤ s * (d - kk) := Int.mul_nonneg hs (by omega)
    omega
theorem gr_le {d h s : Int} : ∀ {kk : Nat}, gr d h s kk ≤ h * kk
  | 0 => by simp [gr]
  | kk + 1 => by
    rw [gr]
    have h1 := gr_le (d := d) (h := h) (s := s) (kk := kk)
    have e : h * ((kk + 1 : Nat) : Int) = h * kk + h := by rw [Int.natCast_add, Int.mul_add]; simp
    omega
theorem gr_self {d h : Int} (hh : 0 ≤ h) : ∀ {kk : Nat}, (kk : Int) ≤ d → gr d h h kk = h * kk
  | 0, _ => by simp [gr]
  | kk + 1, hk => by
    rw [gr, gr_self hh (d := d) (kk := kk) (by omega)]
    have e : h * ((kk + 1 : Nat) : Int) = h * kk + h := by rw [Int.natCast_add, Int.mul_add]; simp
    have e2 : h * 1 ≤ h * (d - kk) := Int.mul_le_mul_of_nonneg_left (by omega) hh
    omega
theorem isInt_of {i lo hi : Int} (h : lo ≤ i) (h2 : i ≤ hi) : isInt (.int i) lo hi = true := by
  unfold isInt
  exact decide_eq_true ⟨h, h2⟩
def I32 (p : D) (most h s due : Int) (n : Nat) (r : List D) (e : En) (m' : M) : Prop := (∀ x, x ∈ r → ∃ f : Int, x = .int f ∧ 0 ≤ f ∧ f ≤ 10 ^ 32) ∧ Src m' n ∧ ∃ (s6 s7 s8 s9 : Option Sl), e = [some (.val (.mref n)), some (.val p), some (.val (.int most)), some (.val (.int h)), some (.val (.int s)), some (.val (.int due)), s6, s7, s8, s9] ∧ vf s6 = true ∧ vf s7 = true ∧ vf s8 = true ∧ vf s9 = true
def T32 (n : Nat) (d : D) (m' : M) : Prop := d = .bl true ∧ Src m' n
theorem w32 {a k' d : Int} (hp : isPlan (.tup [.int a, .int k', .int d]) = true) (h1 : 1 ≤ k') (h2 : k' ≤ d) (h3 : d ≤ 8) (hs : Src m n) (hW : 150 ≤ W) : R.Wp (run W G (k + 6) 32 [.mref n, .tup [.int a, .int k', .int d]] m) (T32 n) X := by
  obtain ⟨kk, hk⟩ : ∃ kk : Nat, k' = kk := ⟨k'.toNat, by omega⟩
  subst hk
  have hkk : ((kk : Nat) : Int).toNat = kk := by omega
  have b5 : B64 10 = true := rfl
  refine go rfl ?_
  simp_arith [c32, b5]
  refine (w17 hs (by simp) (by simp)).to ?_
  rintro x m' ⟨hx, hs⟩
  have hmost : ∃ most : Int, x = .int most ∧ 1 ≤ most ∧ most ≤ 10 ^ 30 := by
    simp only [List.mem_cons, List.not_mem_nil, or_false] at hx
    rcases hx with rfl | rfl | rfl
    · exact ⟨_, rfl, by decide, by decide⟩
    · exact ⟨_, rfl, by decide, by decide⟩
    · exact ⟨_, rfl, by decide, by decide⟩
  obtain ⟨most, rfl, m0, m1⟩ := hmost
  refine (w28 hs m0 (by omega)).to ?_
  rintro x m' ⟨⟨h, rfl, hh0, hh1⟩, hs⟩
  refine (w28 hs m0 (by omega)).to ?_
  rintro x m' ⟨⟨s, rfl, hs0, hs1⟩, hs⟩
  have fh : isInt (.int h) 0 1000000000000000000000000000000 = true := isInt_of hh0 (by omega)
  have fs : isInt (.int s) 0 1000000000000000000000000000000 = true := isInt_of hs0 (by omega)
  have g0 := gr_nonneg (d := d) hh0 hs0 (kk := kk) (by omega)
  have g1 : gr d h s kk ≤ h * 8 := Int.le_trans gr_le (Int.mul_le_mul_of_nonneg_left (by omega) hh0)
  have b1 : (B64 8 || B64 most) = true := b64l (by omega) (by omega)
  simp_arith [b5, b1, ↓w27 h1 h2 h3, hkk, ↓w11, hp, fh, fs, ↓w2 h1 h2 h3, List.cons_append, List.nil_append]
  refine (w16 hs (by omega) (by omega)).to ?_
  rintro x m' ⟨q, rfl, q0, q1, hs⟩
  simp_arith! []
  refine for_inv (I32 (.tup [.int a, .int kk, .int d]) most h s (gr d h s kk) n) ?_ ?_ ⟨?_, hs, _, _, _, _, rfl, rfl, rfl, rfl, rfl⟩
  · rintro x r e m' ⟨hx, hs, s6, s7, s8, s9, rfl, v6, v7, v8, v9⟩
    obtain ⟨f, rfl, f0, f1⟩ := hx x (.head _)
    have ff : isInt (.int f) 0 100000000000000000000000000000000 = true := isInt_of f0 (by omega)
    have hI : ∀ s7 s8 s9, vf s7 = true → vf s8 = true → vf s9 = true → I32 (.tup [.int a, .int kk, .int d]) most h s (gr d h s kk) n r [some (.val (.mref n)), some (.val (.tup [.int a, .int kk, .int d])), some (.val (.int most)), some (.val (.int h)), some (.val (.int s)), some (.val (.int (gr d h s kk))), s6, s7, s8, s9] m' :=
      fun s7 s8 s9 v7 v8 v9 => ⟨fun x hx' => hx x (.tail _ hx'), hs, s6, s7, s8, s9, rfl, v6, v7, v8, v9⟩
    have bd : ∀ p : Int, (B64 p || B64 d) = true := fun p => b64r (by omega) (by omega)
    have bk : ∀ p : Int, (B64 p || B64 (kk : Int)) = true := fun p => b64r (by omega) (by omega)
    simp_arith [vf_free v6, vf_free v7, vf_free v8, vf_free v9, ↓w12, hp, ff, fs]
    refine (r3 h1 h2 h3 rfl hs0 (by omega) hW).to ?_
    rintro low m2 ⟨rfl, hlow⟩
    have e4 := gr_self (d := d) hh0 (kk := kk) (by omega)
    have fin : R.Wp (run W G (k + 4) 4 [D.tup [D.int a, D.int kk, D.int d], D.int f, D.int h] m2) (fun low m3 => m3 = m2 ∧ ((low = .non ∧ gr d h h kk < f) ∨ ∃ l : Int, low = .int l ∧ 0 ≤ l ∧ l ≤ h ∧ f ≤ gr d h l kk ∧ ∀ x, 0 ≤ x → x < l → gr d h x kk < f)) X := by
      have hh2 : h ≤ 10 ^ 33 := by omega
      have q := @r4 W (k + 2) m2 X a kk d f h kk h1 h2 h3 rfl hh0 hh2 hW
      exact q
    rcases hlow with ⟨rfl, hf⟩ | ⟨low, rfl, l0, l1, lf, ll⟩
    have hA : True := trivial
    have hB : True := trivial
    have hC : True := trivial
    have hD : True := trivial
    have hE : gr d (s * d) s kk < f := hf
    rotate_left
    have hA : ¬ gr d low s kk < f := by omega
    have hB : ¬ gr d (s * d) s kk < f := by have := gr_mono (d := d) l1 (Int.le_refl s) (k := kk) (by omega); omega
    by_cases hC : low = 0
    subst hC
    have hC : True := trivial
    have hD : True := trivial
    have hE : True := trivial
    rotate_left
    have hD : ¬ f ≤ gr d (low - 1) s kk := by have := ll (low - 1) (by omega) (by omega); omega
    have hE : ¬ low < 0 := by omega
    all_goals
      simp_arith [hA, hB, hC, hD, hE, vf_free v6, vf_free v7, vf_free v8, vf_free v9, bd, bk, ↓w27 h1 h2 h3, ↓w13, hkk, hp, ff, fh]
      refine fin.to ?_
      clear hA hB hC hD hE
      rintro low2 m3 ⟨rfl, hlow2⟩
      rcases hlow2 with ⟨rfl, hf2⟩ | ⟨low2, rfl, l02, l12, lf2, ll2⟩
      have hA : True := trivial
      have hB : True := trivial
      have hC : True := trivial
      have hD : True := trivial
      have hE : h * kk < f := by omega
      rotate_left
      have hA : ¬ gr d h low2 kk < f := by omega
      have hB : ¬ h * kk < f := by have := gr_mono (d := d) (Int.le_refl h) l12 (k := kk) (by omega); omega
      by_cases hC : low2 = 0
      subst hC
      have hC : True := trivial
      have hD : True := trivial
      have hE : True := trivial
      rotate_left
      have hD : ¬ f ≤ gr d h (low2 - 1) kk := by have := ll2 (low2 - 1) (by omega) (by omega); omega
      have hE : ¬ low2 < 0 := by omega
      all_goals
        simp_arith [hA, hB, hC, hD, hE, vf_free v6, vf_free v7, vf_free v8, vf_free v9, bd, bk, ↓w27 h1 h2 h3, hkk, hp, ff, fh]
        refine hI _ _ _ ?_ ?_ ?_ <;> rfl
  · rintro e m' ⟨_, hs, s6, s7, s8, s9, rfl, v6, v7, v8, v9⟩
    exact ⟨rfl, hs⟩
  · intro x hx
    simp only [List.mem_cons, List.not_mem_nil, or_false] at hx
    rcases hx with rfl | rfl | rfl | rfl | rfl | rfl
    all_goals exact ⟨_, rfl, by omega, by omega⟩
end
end Rw

namespace Rw
open Rf
local macro_rules
  | `(tactic| simp_arith [$as,*]) => `(tactic| simp only [↓w_ok, ↓w_exc, ↓w_bind, ↓w_toO, ↓w_obind, ↓w_ite, ↓w_oite, ↓optW_some, ↓optW_none, ↓blW_bl, ↓intW_i, ↓lstW_l, ↓vw0, ↓vwS, ↓bw0, ↓bw0o, ↓bw0l, ↓bwS, en_free0, en_free0v, en_free0o, en_freeS, ↓ownW0, ↓ownWS, en_setZ, en_setS, ↓w_var, ↓w_bor, ↓w_con, ↓w_op, ↓w_nil, ↓w_cons, ↓w_and, ↓w_or, ↓w_eite, ↓w_chain, ↓w_chain3, ↓w_slc, ↓isTyW_str, ↓w_meth, ↓strW_s, ↓w_js, ↓w_jsn, ↓w_jsc, ↓w_call, ↓w_callv, ↓w_newM, ↓w_comp, ↓w_one, ↓w_refused, ↓w_nm, ↓w_tp, ↓w_tp0, ↓w_tpS, ↓w_wipe0, ↓w_wipeS, vfAt0, vfAtS, vf0, vf1, ↓s_set, ↓s_own', ↓frzW0, ↓frzW0v, ↓frzWS, ↓s_frz, ↓s_setIx, ↓s_msetIx, ↓s_append, ↓s_pop, ↓s_ex, ↓s_if, ↓w_fone, ↓s_for, ↓s_forOwn, ↓s_while, ↓s_ret, ↓s_retN, ↓s_raise, ↓s_pass, ↓s_tryN, ↓ss_nil, ↓ss_cons, mkEnv_c, mkEnv_z, mkEnv_s, ↓o_add, ↓o_addS, ↓o_addL, ↓o_addT, ↓o_sub, ↓o_mul, ↓o_mulL, ↓o_mulT, ↓o_fdiv, ↓o_mod, ↓o_pow, ↓o_neg, ↓o_not, ↓o_split, ↓o_fstrI, ↓o_fstrS, ↓o_strI, ↓o_intS, ↓o_inS, ↓o_ninS, ↓o_ixS0, ↓o_ixS1, ↓o_sortset, ↓o_sorted, ↓o_eqI, ↓o_neI, ↓o_eqS, ↓o_neS, ↓o_eqB, ↓o_eqL0, ↓o_neL0, ↓o_eqT0, ↓o_neT0, ↓o_neB, ↓o_lt, ↓o_le, ↓o_gt, ↓o_ge, ↓o_isN, ↓o_notN, ↓o_isB, ↓o_notB, ↓o_inL, ↓o_inT, ↓o_ninL, ↓o_ninT, ↓at0, ↓at1, ↓at2, ↓at3, ↓at4, ↓o_ixL, ↓o_ixT, ↓o_ixM, ↓o_slFL, ↓o_slFT, ↓o_slFS, ↓o_slTL, ↓o_slTT, ↓o_slTS, ↓o_lenL, ↓o_lenT, ↓o_lenS, ↓o_lenC, ↓o_intI, ↓o_intB, ↓o_min2, ↓o_max2, ↓o_sum, ↓o_all, ↓o_listL, ↓o_listT, ↓o_tupleL, ↓o_tupleT, ↓o_tupR, ↓o_listR, ↓ty_int_n, ↓ty_int_b, ↓ty_int_i, ↓ty_int_s, ↓ty_int_t, ↓ty_int_l, ↓ty_bool_n, ↓ty_bool_b, ↓ty_bool_i, ↓ty_bool_s, ↓ty_bool_t, ↓ty_bool_l, ↓ty_str_n, ↓ty_str_b, ↓ty_str_i, ↓ty_str_s, ↓ty_str_t, ↓ty_str_l, ↓ty_tuple_n, ↓ty_tuple_b, ↓ty_tuple_i, ↓ty_tuple_s, ↓ty_tuple_t, ↓ty_tuple_l, ↓ty_list_n, ↓ty_list_b, ↓ty_list_i, ↓ty_list_s, ↓ty_list_t, ↓ty_list_l, ↓o_bool, ↓o_tup, ↓o_lst, ↓o_range1, ↓o_range2, ↓o_range3, ↓o_zipLL, ↓o_zipTT, ↓o_zipLT, ↓o_zipTL, ↓o_enumL, ↓o_enumT, dp_non, dp_bl, dp_int, dp_str, dp_tup, dp_lst, dps_nil, dps_cons, Bool.and_true, Bool.true_and, lim_le, lim_lt, lg2, lg11, ↓itw_l, ↓itw_t, ↓itw_s, non_n, non_b, non_i, non_s, non_t, non_l, bq_tt, bq_tf, bq_ft, bq_ff, true_and, and_true, if_true, if_false, reduceIte, Bool.not_true, Bool.not_false, Bool.false_eq_true, reduceCtorEq, List.length_cons, List.length_nil, Int.cast_ofNat_Int, Nat.reduceAdd, Nat.reduceSub, decide_eq_true_eq, Bool.not_eq_true', decide_eq_false_iff_not, not_false_eq_true, not_true_eq_false, decide_true, decide_false, Int.reduceEq, Int.reduceNe, Int.reduceLT, Int.reduceLE, Int.reduceGT, Int.reduceGE, Int.reduceNeg, Int.reduceAdd, Int.reduceSub, Int.reduceMul, Int.reduceDiv, Int.reduceMod, Int.reducePow, Int.reduceToNat, Nat.reduceMul, Nat.reduceEqDiff, Nat.reduceLeDiff, Nat.reduceLT, Nat.reduceGT, Nat.reducePow, $as,*])
local macro_rules
  | `(tactic| simp_arith! [$as,*]) => `(tactic| try simp_arith [$as,*])
open Cr
section
variable {W k n : Nat} {m : M} {ds : List D} {V : D → M → Prop} {X : Nat → M → Prop}
/-- a fact as a value -/
def factD (p : Int × Int) : D := .tup [.int p.1, .int p.2]
def goes (d : Int) (kk : Nat) (L : List (Int × Int)) (s : Int) : Bool := L.all fun p => decide (gr d p.1 s kk = p.2)
/-- what first_above tells -/
structure Fa (F : Int → Int) (f A : Int) : Prop where
  a0 : 0 ≤ A
  a1 : A ≤ 1000000000000000000000000000000 + 1
  hi : A ≤ 1000000000000000000000000000000 → f ≤ F A
  lo : ∀ x, 0 ≤ x → x < A → F x < f
theorem Fa.iff {F : Int → Int} {f A s : Int} (mono : ∀ x y, x ≤ y → F x ≤ F y) (h : Fa F f A) (h0 : 0 ≤ s) (h1 : s ≤ 1000000000000000000000000000000) : f ≤ F s ↔ A ≤ s := by
  constructor
  · intro q
    rcases Int.lt_or_le s A with z | z
    · have := h.lo s h0 z; omega
    · exact z
  · intro q
    have := h.hi (by omega)
    have := mono A s q
    omega
def I153 (n k' d h f : Int) (kk : Nat) (m : M) (j : Nat) (e : En) (m' : M) : Prop := ∃ (low high : Int) (sl : Option Sl), e = [some (.val (.tup [.int n, .int k', .int d])), some (.val (.int h)), some (.val (.int f)), some (.val (.int low)), some (.val (.int high)), sl] ∧ vf sl = true ∧ m' = m ∧ Bs (fun x => x = 1000000000000000000000000000000 + 1 ∨ f ≤ gr d h x kk) (1000000000000000000000000000000 + 1) low high ∧ high - low < 2 ^ j
theorem w153 {n k' d h f : Int} {kk : Nat} (h1 : 1 ≤ k') (h2 : k' ≤ d) (h3 : d ≤ 8) (hk : k' = kk) (hW : 150 ≤ W) :
    R.Wp (run W G (k + 2) 153 [.tup [.int n, .int k', .int d], .int h, .int f] m) (fun r m' => m' = m ∧ ∃ A, r = .int A ∧ Fa (fun x => gr d h x kk) f A) X := by
  refine go rfl ?_
  have hkk : k'.toNat = kk := by omega
  simp_arith [c153]
  refine while_inv (I153 n k' d h f kk m) ?_ (show 120 < W by omega) ⟨0, 1000000000000000000000000000000 + 1, none, rfl, rfl, rfl, ⟨by omega, by omega, by omega, .inl rfl, fun x h0 h1 => by omega⟩, by omega⟩
  rintro j e m' ⟨low, high, sl, rfl, hv, rfl, b, hj⟩
  simp_arith [↓w2 h1 h2 h3, hkk, vf_free hv]
  split
  · rename_i hlh
    obtain _ | j := j
    · rw [Int.pow_zero] at hj; omega
    have hh := half hlh hj
    split
    · rename_i hm
      exact ⟨j, by omega, _, _, _, rfl, rfl, rfl, b.up hlh (.inr hm), hh.1⟩
    · rename_i hm
      have b1 := b.ht
      have b2 := b.l0
      refine ⟨j, by omega, _, _, _, rfl, rfl, rfl, ⟨by omega, by omega, b.ht, b.hi, fun x h0 h1 hx => ?_⟩, hh.2⟩
      rcases hx with hx | hx
      · omega
      · exact hm (Int.le_trans hx (gr_mono (Int.le_refl _) (by omega) (by omega)))
  · have e : low = high := by have := b.lh; omega
    refine ⟨low, rfl, b.l0, by have := b.ht; omega, fun q => ?_, fun x h0 h1 => ?_⟩
    · rcases b.hi with z | z
      · omega
      · rw [e]; exact z
    · have := b.lo x h0 h1
      omega
/-- the bounds that facts give -/
structure Bd (d : Int) (kk : Nat) (L : List (Int × Int)) (low high : Int) : Prop where
  l0 : 0 ≤ low
  h1 : high ≤ 1000000000000000000000000000000
  l1 : low ≤ 1000000000000000000000000000000 + 1
  iff : ∀ s, 0 ≤ s → s ≤ 1000000000000000000000000000000 → (goes d kk L s = true ↔ low ≤ s ∧ s ≤ high)
theorem Bd.next {d : Int} {kk : Nat} {L : List (Int × Int)} {low high h f A B : Int} (hk : (kk : Int) ≤ d) (b : Bd d kk L low high) (ha : Fa (fun x => gr d h x kk) f A) (hb : Fa (fun x => gr d h x kk) (f + 1) B) : Bd d kk (L ++ [(h, f)]) (max low A) (min high (B - 1)) := by
  have mono : ∀ x y, x ≤ y → gr d h x kk ≤ gr d h y kk := fun x y q => gr_mono (Int.le_refl _) q hk
  refine ⟨by have := b.l0; omega, by have := b.h1; omega, by have := b.l1; have := ha.a1; omega, fun s s0 s1 => ?_⟩
  have i1 := ha.iff mono s0 s1
  have i2 := hb.iff mono s0 s1
  have i3 := b.iff s s0 s1
  unfold goes at i3 ⊢
  rw [List.all_append, Bool.and_eq_true, i3]
  simp only [List.all_cons, List.all_nil, Bool.and_true, decide_eq_true_eq]
  omega
def I154 (p fs : D) (d : Int) (kk : Nat) (L : List (Int × Int)) (m : M) (r : List D) (e : En) (m' : M) : Prop := ∃ (done rest : List (Int × Int)) (low high : Int) (s4 s5 : Option Sl), r = rest.map factD ∧ L = done ++ rest ∧ e = [some (.val p), some (.val fs), some (.val (.int low)), some (.val (.int high)), s4, s5] ∧ vf s4 = true ∧ vf s5 = true ∧ m' = m ∧ Bd d kk done low high
def P154 (d : Int) (kk : Nat) (L : List (Int × Int)) (m : M) (r : D) (m' : M) : Prop := m' = m ∧ ∃ low high, Bd d kk L low high ∧ r = if low ≤ high then .tup [.int low, .int high] else .non
def I152 (fs : D) (L : List (Int × Int)) (m : M) (r : List D) (e : En) (m' : M) : Prop := ∃ (rest : List (Int × Int)) (s1 : Option Sl), r = rest.map factD ∧ (∀ p, p ∈ rest → p ∈ L) ∧ e = [some (.val fs), s1] ∧ vf s1 = true ∧ m' = m
theorem w152 {L : List (Int × Int)} (hl : L.length ≤ 6) (hL : ∀ p, p ∈ L → 0 ≤ p.1 ∧ p.1 ≤ 10 ^ 30 ∧ 0 ≤ p.2 ∧ p.2 ≤ 10 ^ 32) : R.Wp (run W G (k + 2) 152 [.tup (L.map factD)] m) V X = V (.bl true) m := by
  refine eq_of_run (go rfl ?_)
  simp_arith [c152, List.length_map, show ¬ (6 < ((L.length : Nat) : Int)) by omega]
  refine for_inv (I152 (.tup (L.map factD)) L m) ?_ ?_ ⟨L, none, rfl, fun _ h => h, rfl, rfl, rfl⟩
  · rintro x r e m' ⟨rest, s1, hr, hin, rfl, v1, rfl⟩
    obtain _ | ⟨p, rest⟩ := rest
    · cases hr
    rw [List.map_cons] at hr
    cases hr
    obtain ⟨q1, q2, q3, q4⟩ := hL p (hin p (.head _))
    have e1 : isInt (.int p.1) 0 1000000000000000000000000000000 = true := isInt_of q1 (by omega)
    have e2 : isInt (.int p.2) 0 100000000000000000000000000000000 = true := isInt_of q3 (by omega)
    simp_arith [vf_free v1, factD, r0, e1, e2]
    exact ⟨rest, _, rfl, fun p h => hin p (.tail _ h), rfl, rfl, rfl⟩
  · rintro e m' ⟨rest, s1, hr, hin, rfl, v1, rfl⟩
    simp_arith! []
theorem w154 {a k' d : Int} {kk : Nat} {L : List (Int × Int)} (hp : isPlan (.tup [.int a, .int k', .int d]) = true) (h1 : 1 ≤ k') (h2 : k' ≤ d) (h3 : d ≤ 8) (hk : k' = kk) (hW : 150 ≤ W) (hl : L.length ≤ 6) (hL : ∀ p, p ∈ L → 0 ≤ p.1 ∧ p.1 ≤ 10 ^ 30 ∧ 0 ≤ p.2 ∧ p.2 ≤ 10 ^ 32) :
    R.Wp (run W G (k + 4) 154 [.tup [.int a, .int k', .int d], .tup (L.map factD)] m) (P154 d kk L m) X := by
  refine go rfl ?_
  simp_arith [c154, ↓w6, hp, ↓w152 hl hL]
  refine for_inv (I154 (.tup [.int a, .int k', .int d]) (.tup (L.map factD)) d kk L m) ?_ ?_ ⟨[], L, 0, 1000000000000000000000000000000, none, none, rfl, rfl, rfl, rfl, rfl, rfl, ⟨by omega, by omega, by omega, fun s h0 h1 => by simp [goes, h0, h1]⟩⟩
  · rintro x r e m' ⟨done, rest, low, high, s4, s5, hr, hd, rfl, v4, v5, rfl, b⟩
    obtain _ | ⟨p, rest⟩ := rest
    · cases hr
    rw [List.map_cons] at hr
    cases hr
    simp_arith [factD, vf_free v4, vf_free v5]
    refine (w153 (n := a) h1 h2 h3 hk hW).to ?_
    rintro x m2 ⟨rfl, A, rfl, hA⟩
    simp_arith! []
    refine (w153 (n := a) h1 h2 h3 hk hW).to ?_
    rintro x m3 ⟨rfl, B, rfl, hB⟩
    simp_arith! []
    exact ⟨done ++ [p], rest, _, _, _, _, rfl, by rw [hd, List.append_assoc]; rfl, rfl, rfl, rfl, rfl, b.next (by omega) hA hB⟩
  · rintro e m' ⟨done, rest, low, high, s4, s5, hr, hd, rfl, v4, v5, rfl, b⟩
    obtain _ | ⟨p, rest⟩ := rest
    · rw [List.append_nil] at hd
      subst hd
      simp_arith! []
      by_cases hlh : low ≤ high
      · simp_arith [hlh]
        exact ⟨rfl, low, high, b, by rw [if_pos hlh]⟩
      · simp_arith [hlh]
        exact ⟨rfl, low, high, b, by rw [if_neg hlh]⟩
    · cases hr
end
end Rw

namespace Rw
open Rf
local macro_rules
  | `(tactic| simp_arith [$as,*]) => `(tactic| simp only [↓w_ok, ↓w_exc, ↓w_bind, ↓w_toO, ↓w_obind, ↓w_ite, ↓w_oite, ↓optW_some, ↓optW_none, ↓blW_bl, ↓intW_i, ↓lstW_l, ↓vw0, ↓vwS, ↓bw0, ↓bw0o, ↓bw0l, ↓bwS, en_free0, en_free0v, en_free0o, en_freeS, ↓ownW0, ↓ownWS, en_setZ, en_setS, ↓w_var, ↓w_bor, ↓w_con, ↓w_op, ↓w_nil, ↓w_cons, ↓w_and, ↓w_or, ↓w_eite, ↓w_chain, ↓w_chain3, ↓w_slc, ↓isTyW_str, ↓w_meth, ↓strW_s, ↓w_js, ↓w_jsn, ↓w_jsc, ↓w_call, ↓w_callv, ↓w_newM, ↓w_comp, ↓w_one, ↓w_refused, ↓w_nm, ↓w_tp, ↓w_tp0, ↓w_tpS, ↓w_wipe0, ↓w_wipeS, vfAt0, vfAtS, vf0, vf1, ↓s_set, ↓s_own', ↓frzW0, ↓frzW0v, ↓frzWS, ↓s_frz, ↓s_setIx, ↓s_msetIx, ↓s_append, ↓s_pop, ↓s_ex, ↓s_if, ↓w_fone, ↓s_for, ↓s_forOwn, ↓s_while, ↓s_ret, ↓s_retN, ↓s_raise, ↓s_pass, ↓s_tryN, ↓ss_nil, ↓ss_cons, mkEnv_c, mkEnv_z, mkEnv_s, ↓o_add, ↓o_addS, ↓o_addL, ↓o_addT, ↓o_sub, ↓o_mul, ↓o_mulL, ↓o_mulT, ↓o_fdiv, ↓o_mod, ↓o_pow, ↓o_neg, ↓o_not, ↓o_split, ↓o_fstrI, ↓o_fstrS, ↓o_strI, ↓o_intS, ↓o_inS, ↓o_ninS, ↓o_ixS0, ↓o_ixS1, ↓o_sortset, ↓o_sorted, ↓o_eqI, ↓o_neI, ↓o_eqS, ↓o_neS, ↓o_eqB, ↓o_eqL0, ↓o_neL0, ↓o_eqT0, ↓o_neT0, ↓o_neB, ↓o_lt, ↓o_le, ↓o_gt, ↓o_ge, ↓o_isN, ↓o_notN, ↓o_isB, ↓o_notB, ↓o_inL, ↓o_inT, ↓o_ninL, ↓o_ninT, ↓at0, ↓at1, ↓at2, ↓at3, ↓at4, ↓o_ixL, ↓o_ixT, ↓o_ixM, ↓o_slFL, ↓o_slFT, ↓o_slFS, ↓o_slTL, ↓o_slTT, ↓o_slTS, ↓o_lenL, ↓o_lenT, ↓o_lenS, ↓o_lenC, ↓o_intI, ↓o_intB, ↓o_min2, ↓o_max2, ↓o_sum, ↓o_all, ↓o_listL, ↓o_listT, ↓o_tupleL, ↓o_tupleT, ↓o_tupR, ↓o_listR, ↓ty_int_n, ↓ty_int_b, ↓ty_int_i, ↓ty_int_s, ↓ty_int_t, ↓ty_int_l, ↓ty_bool_n, ↓ty_bool_b, ↓ty_bool_i, ↓ty_bool_s, ↓ty_bool_t, ↓ty_bool_l, ↓ty_str_n, ↓ty_str_b, ↓ty_str_i, ↓ty_str_s, ↓ty_str_t, ↓ty_str_l, ↓ty_tuple_n, ↓ty_tuple_b, ↓ty_tuple_i, ↓ty_tuple_s, ↓ty_tuple_t, ↓ty_tuple_l, ↓ty_list_n, ↓ty_list_b, ↓ty_list_i, ↓ty_list_s, ↓ty_list_t, ↓ty_list_l, ↓o_bool, ↓o_tup, ↓o_lst, ↓o_range1, ↓o_range2, ↓o_range3, ↓o_zipLL, ↓o_zipTT, ↓o_zipLT, ↓o_zipTL, ↓o_enumL, ↓o_enumT, dp_non, dp_bl, dp_int, dp_str, dp_tup, dp_lst, dps_nil, dps_cons, Bool.and_true, Bool.true_and, lim_le, lim_lt, lg2, lg11, ↓itw_l, ↓itw_t, ↓itw_s, non_n, non_b, non_i, non_s, non_t, non_l, bq_tt, bq_tf, bq_ft, bq_ff, true_and, and_true, if_true, if_false, reduceIte, Bool.not_true, Bool.not_false, Bool.false_eq_true, reduceCtorEq, List.length_cons, List.length_nil, Int.cast_ofNat_Int, Nat.reduceAdd, Nat.reduceSub, decide_eq_true_eq, Bool.not_eq_true', decide_eq_false_iff_not, not_false_eq_true, not_true_eq_false, decide_true, decide_false, Int.reduceEq, Int.reduceNe, Int.reduceLT, Int.reduceLE, Int.reduceGT, Int.reduceGE, Int.reduceNeg, Int.reduceAdd, Int.reduceSub, Int.reduceMul, Int.reduceDiv, Int.reduceMod, Int.reducePow, Int.reduceToNat, Nat.reduceMul, Nat.reduceEqDiff, Nat.reduceLeDiff, Nat.reduceLT, Nat.reduceGT, Nat.reducePow, $as,*])
local macro_rules
  | `(tactic| simp_arith! [$as,*]) => `(tactic| try simp_arith [$as,*])
open Cr
section
variable {W k n : Nat} {m : M} {ds : List D} {V : D → M → Prop} {X : Nat → M → Prop}
theorem w155 {a k' d s : Int} {kk : Nat} {L : List (Int × Int)} (h1 : 1 ≤ k') (h2 : k' ≤ d) (h3 : d ≤ 8) (hk : k' = kk) : R.Wp (run W G (k + 2) 155 [.tup [.int a, .int k', .int d], .tup (L.map factD), .int s] m) V X = V (.bl (goes d kk L s)) m := by
  refine eq_of_run (go rfl ?_)
  have hkk : k'.toNat = kk := by omega
  simp_arith [c155]
  refine comp_filt factD (fun p => !decide (gr d p.1 s kk = p.2)) (fun _ => .int 1) _ (fun p hp => ?_) ?_
  · simp_arith [factD, ↓w27 h1 h2 h3, hkk]
    by_cases h : gr d p.1 s kk = p.2 <;> simp [h]
  · have hq : D.pures ((L.filter fun p => !decide (gr d p.1 s kk = p.2)).map fun _ => D.int 1) = true := pures_map fun _ => rfl
    simp_arith [hq]
    congr 1
    rw [Bool.eq_iff_iff]
    simp [goes, List.filter_eq_nil_iff]
/-- drawn facts -/
def Drawn (d most send : Int) (kk : Nat) (L : List (Int × Int)) : Prop := ∀ p, p ∈ L → 0 ≤ p.1 ∧ p.1 ≤ most ∧ (p.2 = gr d p.1 send kk ∨ p.2 = gr d p.1 send kk + 1)
def I156 (p : D) (d most send : Int) (kk n : Nat) (r : List D) (e : En) (m' : M) : Prop := ∃ (L : List (Int × Int)) (s5 s6 s7 : Option Sl), L.length + r.length ≤ 6 ∧ (∃ J : List Nat, r = J.map fun (j : Nat) => D.int j) ∧ Drawn d most send kk L ∧ e = [some (.val (.mref n)), some (.val p), some (.val (.int most)), some (.val (.int send)), some (.val (.tup (L.map factD))), s5, s6, s7] ∧ vf s5 = true ∧ vf s6 = true ∧ vf s7 = true ∧ Src m' n
def P156 (d most send : Int) (kk n : Nat) (r : D) (m' : M) : Prop := ∃ L : List (Int × Int), r = .tup (L.map factD) ∧ L.length ≤ 6 ∧ Drawn d most send kk L ∧ Src m' n
theorem w156 {a k' d most send : Int} {kk : Nat} (h1 : 1 ≤ k') (h2 : k' ≤ d) (h3 : d ≤ 8) (hk : k' = kk) (m0 : 1 ≤ most) (m1 : most ≤ 10 ^ 30) (hs : Src m n) : R.Wp (run W G (k + 4) 156 [.mref n, .tup [.int a, .int k', .int d], .int most, .int send] m) (P156 d most send kk n) X := by
  refine go rfl ?_
  have hkk : k'.toNat = kk := by omega
  simp_arith [c156]
  refine (w16 hs (by omega) (by omega)).to ?_
  rintro x m' ⟨w, rfl, w0, w1, hs⟩
  simp_arith! [small62_of (i := w) (by omega) (by omega)]
  refine ⟨by omega, ?_⟩
  rw [rangeL_map]
  refine for_inv (I156 (.tup [.int a, .int k', .int d]) d most send kk n) ?_ ?_ ⟨[], none, none, none, by simp; omega, ⟨_, rfl⟩, (fun p h => nomatch h), rfl, rfl, rfl, rfl, hs⟩
  · rintro x r e m' ⟨L, s5, s6, s7, hl, ⟨J, hJ⟩, hL, rfl, v5, v6, v7, hs⟩
    obtain _ | ⟨j, J⟩ := J
    · cases hJ
    rw [List.map_cons] at hJ
    cases hJ
    rw [List.length_cons] at hl
    simp_arith [vf_free v5, vf_free v6, vf_free v7]
    refine (w28 hs m0 (by omega)).to ?_
    rintro x m' ⟨⟨h, rfl, hh0, hh1⟩, hs⟩
    simp_arith! [↓w27 h1 h2 h3, hkk]
    refine (w16 hs (by omega) (by omega)).to ?_
    rintro x m' ⟨z, rfl, z0, z1, hs⟩
    simp_arith! [List.length_map]
    refine ⟨by omega, L ++ [(h, gr d h send kk + if z = 0 then 1 else 0)], some (.val (.int j)), some (.val (.int h)), some (.val (.int (gr d h send kk + if z = 0 then 1 else 0))), by simp at hl ⊢; omega, ⟨J, rfl⟩, ?_, ?_, ?_, ?_, ?_, hs⟩
    · intro p hp
      rcases List.mem_append.mp hp with q | q
      · exact hL p q
      · simp only [List.mem_cons, List.not_mem_nil, or_false] at q
        subst q
        refine ⟨hh0, hh1, ?_⟩
        by_cases hz : z = 0 <;> simp [hz]
    · rw [List.map_append]
      rfl
    all_goals rfl
  · rintro e m' ⟨L, s5, s6, s7, hl, hJ, hL, rfl, v5, v6, v7, hs⟩
    simp_arith! []
    exact ⟨L, rfl, by simp at hl; omega, hL, hs⟩
theorem goes_of {d : Int} {kk : Nat} {L : List (Int × Int)} {s : Int} : goes d kk L s = true ↔ ∀ p, p ∈ L → gr d p.1 s kk = p.2 := by
  simp [goes]
/-- with small facts, what is told is small -/
theorem low_small {d most send low high : Int} {kk : Nat} {L : List (Int × Int)} (hk : (kk : Int) ≤ d) (hm : most ≤ 100) (hs : send ≤ most) (hs0 : 0 ≤ send) (hL : Drawn d most send kk L) (b : Bd d kk L low high) (h : low ≤ high) (hl0 : 0 < low) : low ≤ 100 := by
  rcases Int.lt_or_le 100 low with z | z
  · exfalso
    have g1 := (b.iff low b.l0 (by have := b.h1; omega)).mpr ⟨Int.le_refl _, h⟩
    have g2 : ¬ goes d kk L 100 = true := fun q => by have := (b.iff 100 (by omega) (by omega)).mp q; omega
    rw [goes_of] at g1 g2
    apply g2
    intro p hp
    obtain ⟨q0, q1, _⟩ := hL p hp
    have e := g1 p hp
    have sat : ∀ s, 100 ≤ s → gr d p.1 s kk = p.1 * kk := by
      intro s hs
      have u1 := gr_le (d := d) (h := p.1) (s := s) (kk := kk)
      have u2 := gr_mono (d := d) (h := p.1) (h' := p.1) (s := p.1) (s' := s) (Int.le_refl _) (by omega) (k := kk) hk
      have u3 := gr_self (d := d) (h := p.1) q0 (kk := kk) hk
      omega
    rw [sat 100 (by omega), ← sat low (by omega), e]
  · exact z
theorem atNeg1 {xs : List D} {x : D} {f : D → Prop} : atW (xs ++ [x]) (-1) f = f x := by
  unfold atW ixN
  rw [if_neg (by decide), if_pos (by simp; omega)]
  have : ((-1 : Int) + ((xs ++ [x]).length : Int)).toNat = xs.length := by
    rw [List.length_append, List.length_singleton]
    omega
  simp only [Option.bind, this, List.getElem?_concat_length, optW]
theorem filt_range (lo hi : Nat) : ∀ N, (List.range N).filter (fun s => decide (lo ≤ s ∧ s ≤ hi)) = List.range' lo (min (hi + 1) N - lo)
  | 0 => by simp
  | N + 1 => by
    rw [List.range_succ, List.filter_append, filt_range lo hi N]
    by_cases h : lo ≤ N ∧ N ≤ hi
    · have e : min (hi + 1) (N + 1) - lo = (min (hi + 1) N - lo) + 1 := by omega
      rw [e, List.range'_1_concat]
      have e2 : lo + (min (hi + 1) N - lo) = N := by omega
      simp [h, e2]
    · have e : min (hi + 1) (N + 1) - lo = min (hi + 1) N - lo := by omega
      rw [e]
      simp [h]
/-- what stands in the list of all good sends below 300 -/
theorem good_list {d low high : Int} {kk : Nat} {L : List (Int × Int)} (b : Bd d kk L low high) (h : low ≤ high) (hl : low < 300) : ∃ g : List D, ((List.range 300).filter fun (j : Nat) => goes d kk L j).map (fun (j : Nat) => D.int j) = g ∧ D.pures g = true ∧ g ≠ [] ∧ (∀ f : D → Prop, atW g 0 f = f (.int low)) ∧ ∀ f : D → Prop, atW g (-1) f = f (.int (min high 299)) := by
  have l0 := b.l0
  have e : ((List.range 300).filter fun (j : Nat) => goes d kk L j) = (List.range 300).filter (fun s => decide (low.toNat ≤ s ∧ s ≤ high.toNat)) := by
    refine List.filter_congr fun j hj => ?_
    have := List.mem_range.mp hj
    rw [Bool.eq_iff_iff, b.iff j (by omega) (by omega), decide_eq_true_eq]
    omega
  refine ⟨_, rfl, pures_map fun _ => rfl, ?_, ?_, ?_⟩
  all_goals rw [e, filt_range]
  · obtain ⟨c, hc⟩ : ∃ c, min (high.toNat + 1) 300 - low.toNat = c + 1 := ⟨min (high.toNat + 1) 300 - low.toNat - 1, by omega⟩
    rw [hc, List.range'_succ]
    simp
  · intro f
    obtain ⟨c, hc⟩ : ∃ c, min (high.toNat + 1) 300 - low.toNat = c + 1 := ⟨min (high.toNat + 1) 300 - low.toNat - 1, by omega⟩
    rw [hc, List.range'_succ, List.map_cons, at0]
    congr 2
    omega
  · intro f
    obtain ⟨c, hc⟩ : ∃ c, min (high.toNat + 1) 300 - low.toNat = c + 1 := ⟨min (high.toNat + 1) 300 - low.toNat - 1, by omega⟩
    rw [hc, List.range'_1_concat, List.map_append, List.map_singleton, atNeg1]
    congr 2
    omega
theorem good_nil {d low high : Int} {kk : Nat} {L : List (Int × Int)} (b : Bd d kk L low high) (h : ¬ low ≤ high) : ((List.range 300).filter fun (j : Nat) => goes d kk L j) = [] := by
  rw [List.filter_eq_nil_iff]
  intro j hj
  have := List.mem_range.mp hj
  rw [b.iff j (by omega) (by omega)]
  omega
def T157 (n : Nat) (d : D) (m' : M) : Prop := d = .bl true ∧ Src m' n
def I157 (p fs mo : D) (low high d : Int) (kk n : Nat) (L : List (Int × Int)) (m : M) (r : List D) (e : En) (m' : M) : Prop := ∃ (s5 s6 : Option Sl), e = [some (.val (.mref n)), some (.val p), some (.val mo), some (.val fs), some (.val (.tup [.int low, .int high])), s5, s6] ∧ vf s6 = true ∧ m' = m ∧ ∀ x, x ∈ r → ∃ s, x = .int s ∧ goes d kk L s = true
theorem w157 {a k' d most : Int} {kk : Nat} (hp : isPlan (.tup [.int a, .int k', .int d]) = true) (h1 : 1 ≤ k') (h2 : k' ≤ d) (h3 : d ≤ 8) (hk : k' = kk) (hs : Src m n) (hW : 150 ≤ W) (hm : most = 9 ∨ most = 30 ∨ most = 10 ^ 30) : R.Wp (run W G (k + 5) 157 [.mref n, .tup [.int a, .int k', .int d], .int most] m) (T157 n) X := by
  refine go rfl ?_
  have b5 : B64 10 = true := rfl
  have m0 : 1 ≤ most := by omega
  have m1 : most ≤ 10 ^ 30 := by omega
  simp_arith [c157, b5]
  refine (w16 hs (by omega) (by omega)).to ?_
  rintro x m' ⟨send, rfl, s0, s1, hs⟩
  simp_arith! []
  refine (w156 (a := a) h1 h2 h3 hk m0 m1 hs).to ?_
  rintro x m' ⟨L, rfl, hl, hL, hs⟩
  have hL2 : ∀ p, p ∈ L → 0 ≤ p.1 ∧ p.1 ≤ 10 ^ 30 ∧ 0 ≤ p.2 ∧ p.2 ≤ 10 ^ 32 := by
    intro p hp
    obtain ⟨q0, q1, q2⟩ := hL p hp
    have g0 := gr_nonneg (d := d) (h := p.1) (s := send) (kk := kk) q0 s0 (by omega)
    have g1 : gr d p.1 send kk ≤ p.1 * 8 := Int.le_trans gr_le (Int.mul_le_mul_of_nonneg_left (by omega) q0)
    omega
  simp_arith! []
  refine (w154 (a := a) hp h1 h2 h3 hk hW hl hL2).to ?_
  rintro x m2 ⟨rfl, low, high, b, rfl⟩
  have g155 : ∀ {s : Int} {m : M} {V : D → M → Prop} {X : Nat → M → Prop}, R.Wp (run W G (k + 4) 155 [.tup [.int a, .int k', .int d], .tup (L.map factD), .int s] m) V X = V (.bl (goes d kk L s)) m := fun {s m V X} => w155 h1 h2 h3 hk
  by_cases hlh : low ≤ high
  · have l0 := b.l0
    have l1 := b.h1
    have key : ∀ s5 : Option Sl, I157 (.tup [.int a, .int k', .int d]) (.tup (L.map factD)) (.int most) low high d kk n L m2 [.int low, .int high, .int ((low + high) / 2)] [some (.val (.mref n)), some (.val (.tup [.int a, .int k', .int d])), some (.val (.int most)), some (.val (.tup (L.map factD))), some (.val (.tup [.int low, .int high])), s5, none] m2 := by
      refine fun s5 => ⟨s5, none, rfl, rfl, rfl, fun x hx => ?_⟩
      simp only [List.mem_cons, List.not_mem_nil, or_false] at hx
      rcases hx with rfl | rfl | rfl
      · exact ⟨_, rfl, (b.iff _ (by omega) (by omega)).mpr (by omega)⟩
      · exact ⟨_, rfl, (b.iff _ (by omega) (by omega)).mpr (by omega)⟩
      · exact ⟨_, rfl, (b.iff _ (by omega) (by omega)).mpr (by omega)⟩
    have hL0 : 0 < low → goes d kk L (low - 1) = false := fun z => Bool.eq_false_iff.mpr fun q => by have := (b.iff _ (by omega) (by omega)).mp q; omega
    have hH1 : ¬ high = 1000000000000000000000000000000 → goes d kk L (high + 1) = false := fun z => Bool.eq_false_iff.mpr fun q => by have := (b.iff _ (by omega) (by omega)).mp q; omega
    by_cases h100 : most < 100
    · have hl100 : low < 300 := by
        rcases Int.lt_or_le 0 low with z | z
        · have := low_small (by omega) (by omega) (by omega) s0 hL b hlh z
          omega
        · omega
      obtain ⟨g, hg, hgp, hg0, ha0, ha1⟩ := good_list b hlh hl100
      simp_arith! [hlh, h100, small62_of (i := 300) (by omega) (by omega), show Int.toNat 300 = 300 from rfl, rangeL_map]
      refine comp_filt (fun j : Nat => D.int j) (fun j : Nat => goes d kk L j) (fun j : Nat => .int j) _ (fun p hp => ?_) ?_
      · simp_arith! [↓g155]
        cases goes d kk L p <;> simp
      · rw [hg]
        simp_arith! [hgp, hg0, ha0, ha1, l0, l1, b5]
        split
        · split
          · omega
          · refine for_inv _ ?_ ?_ (key _)
            · rintro x r e m3 ⟨s5, s6, rfl, v6, rfl, hx⟩
              obtain ⟨s, rfl, hgs⟩ := hx x (.head _)
              simp_arith! [vf_free v6, ↓g155, hgs]
              exact ⟨_, _, rfl, rfl, rfl, fun x h => hx x (.tail _ h)⟩
            · rintro e m3 ⟨s5, s6, rfl, v6, rfl, hx⟩
              by_cases z0 : 0 < low <;> by_cases z1 : high = 1000000000000000000000000000000
              · simp_arith! [z0, z1, ↓g155, b5, hL0 z0]
                exact ⟨rfl, hs⟩
              · simp_arith! [z0, z1, ↓g155, b5, hL0 z0, hH1 z1]
                exact ⟨rfl, hs⟩
              · simp_arith! [z0, z1, ↓g155, b5]
                exact ⟨rfl, hs⟩
              · simp_arith! [z0, z1, ↓g155, b5, hH1 z1]
                exact ⟨rfl, hs⟩
        · refine for_inv _ ?_ ?_ (key _)
          · rintro x r e m3 ⟨s5, s6, rfl, v6, rfl, hx⟩
            obtain ⟨s, rfl, hgs⟩ := hx x (.head _)
            simp_arith! [vf_free v6, ↓g155, hgs]
            exact ⟨_, _, rfl, rfl, rfl, fun x h => hx x (.tail _ h)⟩
          · rintro e m3 ⟨s5, s6, rfl, v6, rfl, hx⟩
            by_cases z0 : 0 < low <;> by_cases z1 : high = 1000000000000000000000000000000
            · simp_arith! [z0, z1, ↓g155, b5, hL0 z0]
              exact ⟨rfl, hs⟩
            · simp_arith! [z0, z1, ↓g155, b5, hL0 z0, hH1 z1]
              exact ⟨rfl, hs⟩
            · simp_arith! [z0, z1, ↓g155, b5]
              exact ⟨rfl, hs⟩
            · simp_arith! [z0, z1, ↓g155, b5, hH1 z1]
              exact ⟨rfl, hs⟩
    · simp_arith! [hlh, h100, l0, l1, b5]
      refine for_inv _ ?_ ?_ (key _)
      · rintro x r e m3 ⟨s5, s6, rfl, v6, rfl, hx⟩
        obtain ⟨s, rfl, hgs⟩ := hx x (.head _)
        simp_arith! [vf_free v6, ↓g155, hgs]
        exact ⟨_, _, rfl, rfl, rfl, fun x h => hx x (.tail _ h)⟩
      · rintro e m3 ⟨s5, s6, rfl, v6, rfl, hx⟩
        by_cases z0 : 0 < low <;> by_cases z1 : high = 1000000000000000000000000000000
        · simp_arith! [z0, z1, ↓g155, b5, hL0 z0]
          exact ⟨rfl, hs⟩
        · simp_arith! [z0, z1, ↓g155, b5, hL0 z0, hH1 z1]
          exact ⟨rfl, hs⟩
        · simp_arith! [z0, z1, ↓g155, b5]
          exact ⟨rfl, hs⟩
        · simp_arith! [z0, z1, ↓g155, b5, hH1 z1]
          exact ⟨rfl, hs⟩
  · have hn := good_nil b hlh
    by_cases h100 : most < 100
    · simp_arith! [hlh, h100, small62_of (i := 300) (by omega) (by omega), show Int.toNat 300 = 300 from rfl, rangeL_map]
      refine comp_filt (fun j : Nat => D.int j) (fun j : Nat => goes d kk L j) (fun j : Nat => .int j) _ (fun p hp => ?_) ?_
      · simp_arith! [↓g155]
        cases goes d kk L p <;> simp
      · rw [hn]
        simp_arith! [List.map_nil]
        exact ⟨rfl, hs⟩
    · simp_arith! [hlh, h100]
      exact ⟨rfl, hs⟩
end
end Rw

namespace Rw
open Rf
local macro_rules
  | `(tactic| simp_arith [$as,*]) => `(tactic| simp only [↓w_ok, ↓w_exc, ↓w_bind, ↓w_toO, ↓w_obind, ↓w_ite, ↓w_oite, ↓optW_some, ↓optW_none, ↓blW_bl, ↓intW_i, ↓lstW_l, ↓vw0, ↓vwS, ↓bw0, ↓bw0o, ↓bw0l, ↓bwS, en_free0, en_free0v, en_free0o, en_freeS, ↓ownW0, ↓ownWS, en_setZ, en_setS, ↓w_var, ↓w_bor, ↓w_con, ↓w_op, ↓w_nil, ↓w_cons, ↓w_and, ↓w_or, ↓w_eite, ↓w_chain, ↓w_chain3, ↓w_slc, ↓isTyW_str, ↓w_meth, ↓strW_s, ↓w_js, ↓w_jsn, ↓w_jsc, ↓w_call, ↓w_callv, ↓w_newM, ↓w_comp, ↓w_one, ↓w_refused, ↓w_nm, ↓w_tp, ↓w_tp0, ↓w_tpS, ↓w_wipe0, ↓w_wipeS, vfAt0, vfAtS, vf0, vf1, ↓s_set, ↓s_own', ↓frzW0, ↓frzW0v, ↓frzWS, ↓s_frz, ↓s_setIx, ↓s_msetIx, ↓s_append, ↓s_pop, ↓s_ex, ↓s_if, ↓w_fone, ↓s_for, ↓s_forOwn, ↓s_while, ↓s_ret, ↓s_retN, ↓s_raise, ↓s_pass, ↓s_tryN, ↓ss_nil, ↓ss_cons, mkEnv_c, mkEnv_z, mkEnv_s, ↓o_add, ↓o_addS, ↓o_addL, ↓o_addT, ↓o_sub, ↓o_mul, ↓o_mulL, ↓o_mulT, ↓o_fdiv, ↓o_mod, ↓o_pow, ↓o_neg, ↓o_not, ↓o_split, ↓o_fstrI, ↓o_fstrS, ↓o_strI, ↓o_intS, ↓o_inS, ↓o_ninS, ↓o_ixS0, ↓o_ixS1, ↓o_sortset, ↓o_sorted, ↓o_eqI, ↓o_neI, ↓o_eqS, ↓o_neS, ↓o_eqB, ↓o_eqL0, ↓o_neL0, ↓o_eqT0, ↓o_neT0, ↓o_neB, ↓o_lt, ↓o_le, ↓o_gt, ↓o_ge, ↓o_isN, ↓o_notN, ↓o_isB, ↓o_notB, ↓o_inL, ↓o_inT, ↓o_ninL, ↓o_ninT, ↓at0, ↓at1, ↓at2, ↓at3, ↓at4, ↓o_ixL, ↓o_ixT, ↓o_ixM, ↓o_slFL, ↓o_slFT, ↓o_slFS, ↓o_slTL, ↓o_slTT, ↓o_slTS, ↓o_lenL, ↓o_lenT, ↓o_lenS, ↓o_lenC, ↓o_intI, ↓o_intB, ↓o_min2, ↓o_max2, ↓o_sum, ↓o_all, ↓o_listL, ↓o_listT, ↓o_tupleL, ↓o_tupleT, ↓o_tupR, ↓o_listR, ↓ty_int_n, ↓ty_int_b, ↓ty_int_i, ↓ty_int_s, ↓ty_int_t, ↓ty_int_l, ↓ty_bool_n, ↓ty_bool_b, ↓ty_bool_i, ↓ty_bool_s, ↓ty_bool_t, ↓ty_bool_l, ↓ty_str_n, ↓ty_str_b, ↓ty_str_i, ↓ty_str_s, ↓ty_str_t, ↓ty_str_l, ↓ty_tuple_n, ↓ty_tuple_b, ↓ty_tuple_i, ↓ty_tuple_s, ↓ty_tuple_t, ↓ty_tuple_l, ↓ty_list_n, ↓ty_list_b, ↓ty_list_i, ↓ty_list_s, ↓ty_list_t, ↓ty_list_l, ↓o_bool, ↓o_tup, ↓o_lst, ↓o_range1, ↓o_range2, ↓o_range3, ↓o_zipLL, ↓o_zipTT, ↓o_zipLT, ↓o_zipTL, ↓o_enumL, ↓o_enumT, dp_non, dp_bl, dp_int, dp_str, dp_tup, dp_lst, dps_nil, dps_cons, Bool.and_true, Bool.true_and, lim_le, lim_lt, lg2, lg11, ↓itw_l, ↓itw_t, ↓itw_s, non_n, non_b, non_i, non_s, non_t, non_l, bq_tt, bq_tf, bq_ft, bq_ff, true_and, and_true, if_true, if_false, reduceIte, Bool.not_true, Bool.not_false, Bool.false_eq_true, reduceCtorEq, List.length_cons, List.length_nil, Int.cast_ofNat_Int, Nat.reduceAdd, Nat.reduceSub, decide_eq_true_eq, Bool.not_eq_true', decide_eq_false_iff_not, not_false_eq_true, not_true_eq_false, decide_true, decide_false, Int.reduceEq, Int.reduceNe, Int.reduceLT, Int.reduceLE, Int.reduceGT, Int.reduceGE, Int.reduceNeg, Int.reduceAdd, Int.reduceSub, Int.reduceMul, Int.reduceDiv, Int.reduceMod, Int.reducePow, Int.reduceToNat, Nat.reduceMul, Nat.reduceEqDiff, Nat.reduceLeDiff, Nat.reduceLT, Nat.reduceGT, Nat.reducePow, $as,*])
local macro_rules
  | `(tactic| simp_arith! [$as,*]) => `(tactic| try simp_arith [$as,*])
open Cr
section
variable {W k n : Nat} {m : M} {ds : List D} {V : D → M → Prop} {X : Nat → M → Prop}
theorem w158 (m : M) : run 400 G 29 158 [] m = .ok (.bl true) m := by kernel_rfl
theorem w159 (m : M) : run 400 G 29 159 [] m = .ok (.bl true) m := by kernel_rfl
def I160 (ns : List Int) (r : List D) (e : En) (m' : M) : Prop := (∃ L : List Nat, r = L.map fun (j : Nat) => D.int j) ∧ ∃ s1 s2 s3 s4 : Option Sl, e = [some (.val (.scr ns)), s1, s2, s3, s4] ∧ vf s1 = true ∧ vf s2 = true ∧ vf s3 = true ∧ vf s4 = true
def I160a (a b c d : Sl) (n : Nat) (r : List D) (e : En) (m' : M) : Prop := (∀ x, x ∈ r → ∃ i : Int, x = .int i ∧ (i = 9 ∨ i = 30 ∨ i = 10 ^ 30)) ∧ Src m' n ∧ ∃ s4 : Option Sl, e = [some a, some b, some c, some d, s4] ∧ vf s4 = true
theorem w160 {ns : List Int} (hns : ns.length ≤ 63) : ∃ m, run 400 G 30 160 [.scr ns] [] = .ok (.bl true) m := by
  have key : R.Wp (run 400 G (29 + 1) 160 [.scr ns] []) (fun d _ => d = .bl true) noX := by
    have b5 : B64 10 = true := rfl
    refine go rfl ?_
    simp_arith [c160, small62_of (i := max 5 (min 12 (ns.length : Int))) (by omega) (by omega)]
    refine ⟨by omega, ?_⟩
    rw [rangeL_map]
    refine for_inv (I160 ns) ?_ ?_ ⟨⟨_, rfl⟩, _, _, _, _, rfl, rfl, rfl, rfl, rfl⟩
    · rintro x r e m' ⟨⟨L, hL⟩, s1, s2, s3, s4, rfl, v1, v2, v3, v4⟩
      obtain _ | ⟨j, L⟩ := L
      · cases hL
      rw [List.map_cons] at hL
      cases hL
      simp_arith [vf_free v1, vf_free v2, vf_free v3, vf_free v4, b5]
      refine w15.to ?_
      rintro d m1 ⟨rfl, hs⟩
      simp_arith! []
      refine (w26 hs (by omega) (by omega)).to ?_
      rintro d m2 ⟨⟨a, b, c, rfl, a0, a1, c0, c1, b0, b1⟩, hs⟩
      have hp : isPlan (.tup [.int a, .int b, .int c]) = true := decide_eq_true (by omega)
      simp_arith! [b5]
      refine for_inv (I160a (.val (.scr ns)) (.val (.int j)) (.val (.mref m'.length)) (.val (.tup [.int a, .int b, .int c])) m'.length) ?_ ?_ ⟨?_, hs, _, rfl, v4⟩
      · rintro x r e m4 ⟨hx, hs, s4, rfl, v4⟩
        obtain ⟨i, rfl, hi⟩ := hx x (.head _)
        simp_arith! [vf_free v4]
        refine (w157 hp b0 b1 (by omega) (show b = (b.toNat : Nat) by omega) hs (by omega) hi).to ?_
        rintro d m5 ⟨rfl, hs⟩
        simp_arith! []
        exact ⟨fun x h => hx x (.tail _ h), hs, _, rfl, rfl⟩
      · rintro e m4 ⟨_, hs, s4, rfl, v4⟩
        exact ⟨⟨L, rfl⟩, _, _, _, _, rfl, rfl, rfl, rfl, v4⟩
      · intro x hx
        simp only [List.mem_cons, List.not_mem_nil, or_false] at hx
        rcases hx with rfl | rfl | rfl
        · exact ⟨_, rfl, by omega⟩
        · exact ⟨_, rfl, by omega⟩
        · exact ⟨_, rfl, by omega⟩
    · rintro e m' ⟨_, s1, s2, s3, s4, rfl, v1, v2, v3, v4⟩
      simp_arith! []
      rw [w159 m', w_ok]
      simp_arith! []
      rw [w158 m', w_ok]
  obtain ⟨d, m, h, rfl⟩ := key.ok_of
  exact ⟨m, h⟩
end
end Rw

/-! RRep: how the pure values, slots and memory stand for what the layer's heap holds. -/
namespace Rf
open PySem (Str Addr Value Pos Expr Stmt Scope Program World Heap Shared)
open L2 (V Hp HO SqL SqT Rd upd upd_same upd_ne VK XK TE TT TA TS TG TI WX Cx Ends)

/-- what a text's tables say: the defs' names, the errors' names, by their numbers -/
structure Names where
  fn : Nat → Option Str
  er : Nat → Option Str

/-- a tuple, a list that stays as it is: tracked and not to be written, or of the module -/
def FzT (K : PySem.W.Frag) (H : Hp) (W : Addr → Prop) (a : Addr) (vs : List V) : Prop :=
  (Rd H a (.tup vs) ∧ ¬ W a) ∨ ∃ (o : PySem.Obj) (its : Array Value) (n : Nat), K.lookup a = some o ∧ o.cls = .type "tuple" ∧ o.data = .seq its n ∧ its.size ≤ PySem.sizeLine ∧ L2.Vals vs its.toList
def FzL (K : PySem.W.Frag) (H : Hp) (W : Addr → Prop) (a : Addr) (vs : List V) : Prop :=
  (Rd H a (.lst vs) ∧ ¬ W a) ∨ ∃ (o : PySem.Obj) (its : Array Value) (n : Nat), K.lookup a = some o ∧ o.cls = .type "list" ∧ o.dict = none ∧ o.data = .seq its n ∧ its.size ≤ PySem.sizeLine ∧ L2.Vals vs its.toList
theorem FzT.sq {K : PySem.W.Frag} {H : Hp} {W : Addr → Prop} {a : Addr} {vs : List V} (h : FzT K H W a vs) : SqT K H a vs := h.imp (·.1) id
theorem FzL.sq {K : PySem.W.Frag} {H : Hp} {W : Addr → Prop} {a : Addr} {vs : List V} (h : FzL K H W a vs) : SqL K H a vs := h.imp (·.1) id

/-- what the values lean on: the written part, the module's names, the tables -/
structure Gl where
  K : PySem.W.Frag
  mg : Str → Option Value
  nm : Names
  ids : Nat → Bool
  tb : List (Addr × Str)

def vstr (s : List Nat) : V := .str ⟨s.toArray⟩
def strOk (s : List Nat) : Prop := s.length ≤ LIM ∧ ∀ c ∈ s, c < 0x110000

mutual
def Rep (G : Gl) (H : Hp) (W : Addr → Prop) (ρ : List Addr) : D → V → Prop
  | .non, v => v = .non
  | .bl b, v => v = .bl b
  | .int i, v => v = .int i
  | .str s, v => v = vstr s ∧ strOk s
  | .tup ds, v => ∃ a vs, v = .ref a ∧ FzT G.K H W a vs ∧ ds.length ≤ LIM ∧ Reps G H W ρ ds vs
  | .lst ds, v => ∃ a vs, v = .ref a ∧ (H a = some (.lst vs) ∧ ¬ W a) ∧ ds.length ≤ LIM ∧ Reps G H W ρ ds vs
  | .fn n, v => ∃ x a, G.ids n = true ∧ G.nm.fn n = some x ∧ G.mg x = some (.ref a) ∧ v = .ref a
  | .mref n, v => ∃ a, ρ[n]? = some a ∧ v = .ref a
  | .scr ns, v => ∃ a, v = .ref a ∧ FzL G.K H W a (ns.map V.int)
def Reps (G : Gl) (H : Hp) (W : Addr → Prop) (ρ : List Addr) : List D → List V → Prop
  | [], [] => True
  | d :: ds, v :: vs => Rep G H W ρ d v ∧ Reps G H W ρ ds vs
  | _, _ => False
end

theorem LIM_eq : LIM = PySem.sizeLine := by rw [PySem.sizeLine_eq] <;> rfl
section
variable {G : Gl} {H H' : Hp} {W W' : Addr → Prop} {ρ ρ' : List Addr}
theorem Reps.len : ∀ {ds : List D} {vs : List V}, Reps G H W ρ ds vs → ds.length = vs.length
  | [], [], _ => rfl
  | _ :: _, _ :: _, h => by
    rw [Reps] at h
    rw [List.length_cons, List.length_cons, Reps.len h.2]
  | [], _ :: _, h => by rw [Reps] at h <;> first | exact h.elim | (intros; contradiction)
  | _ :: _, [], h => by rw [Reps] at h <;> first | exact h.elim | (intros; contradiction)
theorem Reps.nil : Reps G H W ρ [] [] := by rw [Reps] <;> trivial
theorem Reps.cons {d : D} {ds : List D} {v : V} {vs : List V} (h : Rep G H W ρ d v) (hs : Reps G H W ρ ds vs) : Reps G H W ρ (d :: ds) (v :: vs) := by
  rw [Reps] <;> exact ⟨h, hs⟩
theorem Reps.of_cons {d : D} {ds : List D} {v : V} {vs : List V} (h : Reps G H W ρ (d :: ds) (v :: vs)) : Rep G H W ρ d v ∧ Reps G H W ρ ds vs := by
  rw [Reps] at h <;> exact h
theorem Reps.inv_cons {d : D} {ds : List D} {vs : List V} (h : Reps G H W ρ (d :: ds) vs) : ∃ v r, vs = v :: r ∧ Rep G H W ρ d v ∧ Reps G H W ρ ds r := by
  cases vs with
  | nil => exact absurd h.len (by simp)
  | cons v r => exact ⟨v, r, rfl, Reps.of_cons h⟩
theorem Reps.inv_nil {vs : List V} (h : Reps G H W ρ [] vs) : vs = [] := by
  cases vs with
  | nil => rfl
  | cons v r => exact absurd h.len (by simp)
theorem Reps.get : ∀ {ds : List D} {vs : List V} {i : Nat} {d : D}, Reps G H W ρ ds vs → ds[i]? = some d → ∃ v, vs[i]? = some v ∧ Rep G H W ρ d v
  | [], _, _, _, _, e => by simp at e
  | d :: ds, vs, i, x, h, e => by
    obtain ⟨v, r, rfl, h1, h2⟩ := h.inv_cons
    cases i with
    | zero =>
      have e1 : d = x := by simpa using e
      subst e1
      exact ⟨v, rfl, h1⟩
    | succ i =>
      obtain ⟨w, h3, h4⟩ := Reps.get (i := i) (d := x) h2 (by simpa using e)
      exact ⟨w, by simpa using h3, h4⟩
theorem Reps.append : ∀ {ds es : List D} {vs us : List V}, Reps G H W ρ ds vs → Reps G H W ρ es us → Reps G H W ρ (ds ++ es) (vs ++ us)
  | [], es, vs, us, h, k => by
    rw [h.inv_nil]
    exact k
  | d :: ds, es, vs, us, h, k => by
    obtain ⟨v, r, rfl, h1, h2⟩ := h.inv_cons
    exact Reps.cons h1 (Reps.append h2 k)
theorem Reps.take : ∀ {ds : List D} {vs : List V} (n : Nat), Reps G H W ρ ds vs → Reps G H W ρ (ds.take n) (vs.take n)
  | _, _, 0, _ => by simpa using Reps.nil
  | [], vs, n + 1, h => by
    rw [h.inv_nil]
    exact Reps.nil
  | d :: ds, vs, n + 1, h => by
    obtain ⟨v, r, rfl, h1, h2⟩ := h.inv_cons
    exact Reps.cons h1 (Reps.take n h2)
theorem Reps.drop : ∀ {ds : List D} {vs : List V} (n : Nat), Reps G H W ρ ds vs → Reps G H W ρ (ds.drop n) (vs.drop n)
  | _, _, 0, h => by simpa using h
  | [], vs, n + 1, h => by
    rw [h.inv_nil]
    exact Reps.nil
  | d :: ds, vs, n + 1, h => by
    obtain ⟨v, r, rfl, h1, h2⟩ := h.inv_cons
    exact Reps.drop n h2
theorem Reps.set {d : D} {v : V} (h : Rep G H W ρ d v) : ∀ {ds : List D} {vs : List V} (i : Nat), Reps G H W ρ ds vs → Reps G H W ρ (ds.set i d) (vs.set i v)
  | [], vs, i, k => by
    rw [k.inv_nil]
    exact Reps.nil
  | x :: ds, vs, i, k => by
    obtain ⟨u, r, rfl, h1, h2⟩ := k.inv_cons
    cases i with
    | zero => exact Reps.cons h h2
    | succ i => exact Reps.cons h1 (Reps.set h i h2)
theorem Reps.erase : ∀ {ds : List D} {vs : List V} (i : Nat), Reps G H W ρ ds vs → Reps G H W ρ (ds.eraseIdx i) (vs.eraseIdx i)
  | [], vs, i, k => by
    rw [k.inv_nil]
    exact Reps.nil
  | x :: ds, vs, i, k => by
    obtain ⟨u, r, rfl, h1, h2⟩ := k.inv_cons
    cases i with
    | zero => exact h2
    | succ i => exact Reps.cons h1 (Reps.erase i h2)
theorem Reps.rev : ∀ {ds : List D} {vs : List V}, Reps G H W ρ ds vs → Reps G H W ρ ds.reverse vs.reverse
  | [], vs, k => by
    rw [k.inv_nil]
    exact Reps.nil
  | x :: ds, vs, k => by
    obtain ⟨u, r, rfl, h1, h2⟩ := k.inv_cons
    rw [List.reverse_cons, List.reverse_cons]
    exact Reps.append (Reps.rev h2) (Reps.cons h1 Reps.nil)
theorem Reps.rep {ds : List D} {vs : List V} (h : Reps G H W ρ ds vs) : ∀ k : Nat, Reps G H W ρ (List.replicate k ds).flatten (List.replicate k vs).flatten
  | 0 => Reps.nil
  | k + 1 => by
    rw [List.replicate_succ, List.replicate_succ, List.flatten_cons, List.flatten_cons]
    exact Reps.append h (Reps.rep h k)
theorem Reps.ints : ∀ {ds : List D} {vs : List V} {is : List Int}, Reps G H W ρ ds vs → ints? ds = some is → vs = is.map V.int ∧ ds = is.map D.int
  | [], vs, is, h, e => by
    rw [h.inv_nil]
    have e1 : ([] : List Int) = is := by simpa [ints?] using e
    subst e1
    exact ⟨rfl, rfl⟩
  | d :: ds, vs, is, h, e => by
    obtain ⟨v, r, rfl, h1, h2⟩ := h.inv_cons
    cases d with
    | int i =>
      have e1 : (ints? ds).map (i :: ·) = some is := e
      obtain ⟨js, e2, e3⟩ := Option.map_eq_some_iff.mp e1
      obtain ⟨q1, q2⟩ := Reps.ints h2 e2
      subst e3
      rw [Rep] at h1
      rw [q1, q2, h1]
      exact ⟨rfl, rfl⟩
    | _ => simp [ints?] at e
theorem Reps.bools : ∀ {ds : List D} {vs : List V} {is : List Bool}, Reps G H W ρ ds vs → bools? ds = some is → vs = is.map V.bl
  | [], vs, is, h, e => by
    rw [h.inv_nil]
    have e1 : ([] : List Bool) = is := by simpa [bools?] using e
    subst e1
    rfl
  | d :: ds, vs, is, h, e => by
    obtain ⟨v, r, rfl, h1, h2⟩ := h.inv_cons
    cases d with
    | bl i =>
      have e1 : (bools? ds).map (i :: ·) = some is := e
      obtain ⟨js, e2, e3⟩ := Option.map_eq_some_iff.mp e1
      have q1 := Reps.bools h2 e2
      subst e3
      rw [Rep] at h1
      rw [q1, h1]
      rfl
    | _ => simp [bools?] at e
theorem Reps.strs : ∀ {ds : List D} {vs : List V} {is : List (List Nat)}, Reps G H W ρ ds vs → strs? ds = some is → vs = is.map vstr ∧ ∀ s ∈ is, strOk s
  | [], vs, is, h, e => by
    rw [h.inv_nil]
    have e1 : ([] : List (List Nat)) = is := by simpa [strs?] using e
    subst e1
    exact ⟨rfl, by simp⟩
  | d :: ds, vs, is, h, e => by
    obtain ⟨v, r, rfl, h1, h2⟩ := h.inv_cons
    cases d with
    | str i =>
      have e1 : (strs? ds).map (i :: ·) = some is := e
      obtain ⟨js, e2, e3⟩ := Option.map_eq_some_iff.mp e1
      obtain ⟨q1, q2⟩ := Reps.strs h2 e2
      subst e3
      rw [Rep] at h1
      refine ⟨by rw [q1, h1.1] <;> rfl, fun s hs => ?_⟩
      rcases List.mem_cons.mp hs with rfl | hs
      · exact h1.2
      · exact q2 s hs
    | _ => simp [strs?] at e

/-! ### what stays -/
/-- every object that is tracked and not to be written is kept -/
def NT (o : HO) : Prop := ∀ ps, o ≠ .tbl ps
theorem nt_lst {xs : List V} : NT (.lst xs) := fun _ z => nomatch z
theorem nt_tup {xs : List V} : NT (.tup xs) := fun _ z => nomatch z
theorem nt_frz {o : PySem.Obj} {u : HO} : NT (.frz o u) := fun _ z => nomatch z
/-- an object stands there that is no table -/
def Lv (H : Hp) (a : Addr) : Prop := ∃ o, H a = some o ∧ NT o
theorem Lv.of {H : Hp} {a : Addr} {o : HO} (h : H a = some o) (n : NT o) : Lv H a := ⟨o, h, n⟩
theorem Lv.some {H : Hp} {a : Addr} (h : Lv H a) : H a ≠ none := fun z => by
  obtain ⟨o, e, _⟩ := h
  rw [z] at e
  cases e
theorem nlv {H : Hp} {a : Addr} (h : H a = none) : ¬ Lv H a := fun z => z.some h
theorem lv_upd {H : Hp} {a c : Addr} {us : List V} (h : Lv H c) : Lv (upd H a (.lst us)) c := by
  by_cases z : c = a
  · subst z
    exact ⟨_, upd_same, nt_lst⟩
  · obtain ⟨o, e, n⟩ := h
    exact ⟨o, by rw [upd_ne z]; exact e, n⟩
def Kp (W : Addr → Prop) (H H' : Hp) : Prop := ∀ a o, H a = some o → ¬ W a → NT o → H' a = some o
theorem Kp.refl : Kp W H H := fun _ _ h _ _ => h
theorem Kp.new {p : Addr} {o : HO} (h : H p = none) : Kp W H (upd H p o) := fun a u e _ _ => by
  rw [upd_ne (L2.ne_of_none e h)]
  exact e
theorem Kp.wr {p : Addr} {o : HO} (h : W p) : Kp W H (upd H p o) := fun a u e n _ => by
  rw [upd_ne (fun z => n (by rw [z]; exact h))]
  exact e
theorem FzT.mono {K : PySem.W.Frag} {a : Addr} {vs : List V} (h : FzT K H W a vs) (k : Kp W H H') (w : ∀ a, W' a → W a ∨ ¬ Lv H a) : FzT K H' W' a vs := by
  rcases h with ⟨h | ⟨o, h⟩, n⟩ | h
  · exact .inl ⟨.inl (k _ _ h n nt_tup), fun z => (w a z).elim n fun e => e ⟨_, h, by first | exact nt_tup | exact nt_lst | exact nt_frz⟩⟩
  · exact .inl ⟨.inr ⟨o, k _ _ h n nt_frz⟩, fun z => (w a z).elim n fun e => e ⟨_, h, by first | exact nt_tup | exact nt_lst | exact nt_frz⟩⟩
  · exact .inr h
theorem FzL.mono {K : PySem.W.Frag} {a : Addr} {vs : List V} (h : FzL K H W a vs) (k : Kp W H H') (w : ∀ a, W' a → W a ∨ ¬ Lv H a) : FzL K H' W' a vs := by
  rcases h with ⟨h | ⟨o, h⟩, n⟩ | h
  · exact .inl ⟨.inl (k _ _ h n nt_lst), fun z => (w a z).elim n fun e => e ⟨_, h, by first | exact nt_tup | exact nt_lst | exact nt_frz⟩⟩
  · exact .inl ⟨.inr ⟨o, k _ _ h n nt_frz⟩, fun z => (w a z).elim n fun e => e ⟨_, h, by first | exact nt_tup | exact nt_lst | exact nt_frz⟩⟩
  · exact .inr h
mutual
theorem Rep.mono (k : Kp W H H') (w : ∀ a, W' a → W a ∨ ¬ Lv H a) (r : ρ <+: ρ') : ∀ (d : D) (v : V), Rep G H W ρ d v → Rep G H' W' ρ' d v
  | .non, v, h => by
    rw [Rep] at h ⊢
    exact h
  | .bl b, v, h => by
    rw [Rep] at h ⊢
    exact h
  | .int i, v, h => by
    rw [Rep] at h ⊢
    exact h
  | .str s, v, h => by
    rw [Rep] at h ⊢
    exact h
  | .tup ds, v, h => by
    rw [Rep] at h ⊢
    obtain ⟨a, vs, e, f, z, hs⟩ := h
    exact ⟨a, vs, e, f.mono k w, z, Reps.mono k w r ds vs hs⟩
  | .lst ds, v, h => by
    rw [Rep] at h ⊢
    obtain ⟨a, vs, e, f, z, hs⟩ := h
    exact ⟨a, vs, e, ⟨k _ _ f.1 f.2 nt_lst, fun z => (w a z).elim f.2 fun e => e ⟨_, f.1, nt_lst⟩⟩, z, Reps.mono k w r ds vs hs⟩
  | .scr ns, v, h => by
    rw [Rep] at h ⊢
    obtain ⟨a, e, f⟩ := h
    exact ⟨a, e, f.mono k w⟩
  | .fn n, v, h => by
    rw [Rep] at h ⊢
    exact h
  | .mref n, v, h => by
    rw [Rep] at h ⊢
    obtain ⟨a, e, q⟩ := h
    obtain ⟨t, rfl⟩ := r
    exact ⟨a, by rw [List.getElem?_append_left (List.getElem?_eq_some_iff.mp e).1]; exact e, q⟩
theorem Reps.mono (k : Kp W H H') (w : ∀ a, W' a → W a ∨ ¬ Lv H a) (r : ρ <+: ρ') : ∀ (ds : List D) (vs : List V), Reps G H W ρ ds vs → Reps G H' W' ρ' ds vs
  | [], vs, h => by
    rw [h.inv_nil]
    exact Reps.nil
  | d :: ds, vs, h => by
    obtain ⟨v, r', rfl, h1, h2⟩ := h.inv_cons
    exact Reps.cons (Rep.mono k w r d v h1) (Reps.mono k w r ds r' h2)
end
end

/-! ### the state -/
/-- the addresses that may be written: outer ones, the memory's, the slots' own -/
def Wr (Z : Addr → Prop) (ρ : List Addr) (O : Nat → Option Addr) (a : Addr) : Prop := Z a ∨ a ∈ ρ ∨ ∃ i, O i = some a
def noO : Nat → Option Addr := fun _ => none

/-- what the memory's places stand for -/
structure MR (G : Gl) (Z : Addr → Prop) (ρ : List Addr) (O : Nat → Option Addr) (m : M) (H : Hp) : Prop where
  tb : LamX.Tabs G.tb H
  zt : ∀ a, Z a → Lv H a
  zr : ∀ a ∈ ρ, ¬ Z a
  nd : ρ.Nodup
  len : ρ.length = m.length
  mem : ∀ (n : Nat) (xs : List D), m[n]? = some (MO.lst xs) → ∃ a vs, ρ[n]? = some a ∧ H a = some (.lst vs) ∧ xs.length ≤ LIM ∧ Reps G H (Wr Z ρ O) ρ xs vs
def SlR (G : Gl) (H : Hp) (W : Addr → Prop) (ρ : List Addr) (o : Option Addr) : Sl → Option V → Prop
  | .val d, x => o = none ∧ ∃ v, x = some v ∧ Rep G H W ρ d v
  | .own ds, x => ∃ a vs, o = some a ∧ x = some (.ref a) ∧ H a = some (.lst vs) ∧ ds.length ≤ LIM ∧ Reps G H W ρ ds vs
  | .lock ds, x => ∃ a vs, o = some a ∧ x = some (.ref a) ∧ H a = some (.lst vs) ∧ ds.length ≤ LIM ∧ Reps G H W ρ ds vs
structure SR (G : Gl) (Z : Addr → Prop) (ρ : List Addr) (O : Nat → Option Addr) (e : En) (m : M) (σ : L2.St) (H : Hp) : Prop where
  mr : MR G Z ρ O m H
  len : σ.length = e.length
  oi : ∀ i j a, O i = some a → O j = some a → i = j
  oz : ∀ i a, O i = some a → ¬ Z a ∧ a ∉ ρ
  ot : ∀ i a, O i = some a → Lv H a
  sl : ∀ i s, e[i]? = some (some s) → ∃ x, σ[i]? = some x ∧ SlR G H (Wr Z ρ O) ρ (O i) s x
  on : ∀ i, (∀ s, e[i]? = some (some s) → ∃ d, s = .val d) → O i = none

section
variable {G : Gl} {Z : Addr → Prop} {ρ ρ' : List Addr} {O : Nat → Option Addr} {e : En} {m m' : M} {σ : L2.St} {H H' : Hp}
/-- what an expression leaves -/
structure Stp (G : Gl) (Z : Addr → Prop) (O : Nat → Option Addr) (e : En) (σ : L2.St) (ρ : List Addr) (H : Hp) (ρ' : List Addr) (m' : M) (H' : Hp) : Prop where
  sr : SR G Z ρ' O e m' σ H'
  kp : ∀ a o, H a = some o → a ∉ ρ → NT o → H' a = some o
  dm : ∀ a, Lv H a → Lv H' a
  pre : ρ <+: ρ'
  new : ∀ a ∈ ρ', a ∈ ρ ∨ ¬ Lv H a
theorem Stp.refl (s : SR G Z ρ O e m σ H) : Stp G Z O e σ ρ H ρ m H := ⟨s, fun _ _ h _ _ => h, fun _ h => h, List.prefix_refl _, fun _ h => .inl h⟩
theorem fresh_of {p : Addr} (dm : ∀ a, Lv H a → Lv H' a) (h : ¬ Lv H' p) : ¬ Lv H p := fun z => h (dm p z)
theorem MR.rt (x : MR G Z ρ O m H) : ∀ a ∈ ρ, Lv H a := fun a ha => by
  obtain ⟨n, e⟩ := List.mem_iff_getElem?.mp ha
  have hn : n < m.length := by
    rw [← x.len]
    exact (List.getElem?_eq_some_iff.mp e).1
  obtain ⟨o, ho⟩ : ∃ o, m[n]? = some o := ⟨m[n], List.getElem?_eq_getElem hn⟩
  cases o with
  | lst xs =>
    obtain ⟨a', vs, e1, e2, _⟩ := x.mem n xs ho
    rw [e] at e1
    cases e1
    exact ⟨_, e2, nt_lst⟩
theorem SR.wt (s : SR G Z ρ O e m σ H) : ∀ a, Wr Z ρ O a → Lv H a := fun a h => by
  rcases h with h | h | ⟨i, h⟩
  · exact s.mr.zt a h
  · exact s.mr.rt a h
  · exact s.ot i a h
theorem Stp.Kp (s : Stp G Z O e σ ρ H ρ' m' H') : Kp (Wr Z ρ O) H H' := fun a o h n nt => s.kp a o h (fun z => n (.inr (.inl z))) nt
theorem Stp.w (s : Stp G Z O e σ ρ H ρ' m' H') : ∀ a, Wr Z ρ' O a → Wr Z ρ O a ∨ ¬ Lv H a := fun a h => by
  rcases h with h | h | h
  · exact .inl (.inl h)
  · exact (s.new a h).imp (fun z => .inr (.inl z)) id
  · exact .inl (.inr (.inr h))
theorem Stp.rep (s : Stp G Z O e σ ρ H ρ' m' H') {d : D} {v : V} (h : Rep G H (Wr Z ρ O) ρ d v) : Rep G H' (Wr Z ρ' O) ρ' d v := Rep.mono s.Kp s.w s.pre d v h
theorem Stp.reps (s : Stp G Z O e σ ρ H ρ' m' H') {d : List D} {v : List V} (h : Reps G H (Wr Z ρ O) ρ d v) : Reps G H' (Wr Z ρ' O) ρ' d v := Reps.mono s.Kp s.w s.pre d v h
theorem Stp.trans {ρ2 : List Addr} {m2 : M} {H2 : Hp} (hs : SR G Z ρ O e m σ H) (s : Stp G Z O e σ ρ H ρ' m' H') (t : Stp G Z O e σ ρ' H' ρ2 m2 H2) : Stp G Z O e σ ρ H ρ2 m2 H2 where
  sr := t.sr
  kp := fun a o h n nt => t.kp a o (s.kp a o h n nt) (fun z => (s.new a z).elim n fun q => q ⟨o, h, nt⟩) nt
  dm := fun a h => t.dm a (s.dm a h)
  pre := s.pre.trans t.pre
  new := fun a h => (t.new a h).elim (fun z => s.new a z) fun z => .inr (fresh_of s.dm z)
theorem keep_dm (k : ∀ a o, H a = some o → H' a = some o) : ∀ a, Lv H a → Lv H' a := fun a ⟨o, h, n⟩ => ⟨o, k a o h, n⟩
/-- the same state over a heap with a new object -/
theorem SR.keep (s : SR G Z ρ O e m σ H) (k : ∀ a o, H a = some o → H' a = some o) : SR G Z ρ O e m σ H' := by
  have kp : Kp (Wr Z ρ O) H H' := fun a o h _ _ => k a o h
  have w : ∀ a, Wr Z ρ O a → Wr Z ρ O a ∨ ¬ Lv H a := fun a h => .inl h
  have nn := keep_dm k
  refine ⟨⟨s.mr.tb.ext k, fun a h => nn a (s.mr.zt a h), s.mr.zr, s.mr.nd, s.mr.len, fun n xs h => ?_⟩, s.len, s.oi, s.oz, fun i a h => nn a (s.ot i a h), fun i x h => ?_, s.on⟩
  · obtain ⟨a, vs, e1, e2, z, r⟩ := s.mr.mem n xs h
    exact ⟨a, vs, e1, k _ _ e2, z, Reps.mono kp w (List.prefix_refl _) _ _ r⟩
  · obtain ⟨y, ey, h2⟩ := s.sl i x h
    refine ⟨y, ey, ?_⟩
    cases x with
    | val d =>
      obtain ⟨h3, v, e1, r⟩ := h2
      exact ⟨h3, v, e1, Rep.mono kp w (List.prefix_refl _) _ _ r⟩
    | own d =>
      obtain ⟨a, vs, h3, e1, h4, z, r⟩ := h2
      exact ⟨a, vs, h3, e1, k _ _ h4, z, Reps.mono kp w (List.prefix_refl _) _ _ r⟩
    | lock d =>
      obtain ⟨a, vs, h3, e1, h4, z, r⟩ := h2
      exact ⟨a, vs, h3, e1, k _ _ h4, z, Reps.mono kp w (List.prefix_refl _) _ _ r⟩
theorem Stp.keep (s : SR G Z ρ O e m σ H) (k : ∀ a o, H a = some o → H' a = some o) : Stp G Z O e σ ρ H ρ m H' := ⟨s.keep k, fun a o h _ _ => k a o h, fun a h => keep_dm k a h, List.prefix_refl _, fun _ h => .inl h⟩
theorem upd_k {p : Addr} {o : HO} (h : H p = none) : ∀ a u, H a = some u → upd H p o a = some u := fun a u e => by
  rw [upd_ne (L2.ne_of_none e h)]
  exact e
/-- a value that may be a list which a slot owns -/
def RepB (G : Gl) (H : Hp) (W : Addr → Prop) (ρ : List Addr) (d : D) (v : V) : Prop :=
  Rep G H W ρ d v ∨ ∃ a vs ds, d = .lst ds ∧ v = .ref a ∧ H a = some (.lst vs) ∧ a ∉ ρ ∧ ds.length ≤ LIM ∧ Reps G H W ρ ds vs
theorem Stp.repB (s : Stp G Z O e σ ρ H ρ' m' H') {d : D} {v : V} (h : RepB G H (Wr Z ρ O) ρ d v) : RepB G H' (Wr Z ρ' O) ρ' d v := by
  rcases h with h | ⟨a, vs, ds, e1, e2, h1, n, z, r⟩
  · exact .inl (s.rep h)
  · refine .inr ⟨a, vs, ds, e1, e2, s.kp _ _ h1 n nt_lst, fun q => ?_, z, s.reps r⟩
    rcases s.new a q with q | q
    · exact n q
    · exact q ⟨_, h1, nt_lst⟩
theorem RepB.lst {W : Addr → Prop} {ds : List D} {v : V} (h : RepB G H W ρ (.lst ds) v) : ∃ a vs, v = .ref a ∧ H a = some (.lst vs) ∧ ds.length ≤ LIM ∧ Reps G H W ρ ds vs := by
  rcases h with h | ⟨a, vs, ds', e1, e2, h1, _, z, r⟩
  · rw [Rep] at h
    obtain ⟨a, vs, e, f, z, r⟩ := h
    exact ⟨a, vs, e, f.1, z, r⟩
  · cases e1
    exact ⟨a, vs, e2, h1, z, r⟩
theorem RepB.rep {W : Addr → Prop} {d : D} {v : V} (h : RepB G H W ρ d v) (n : ∀ ds, d ≠ .lst ds) : Rep G H W ρ d v := by
  rcases h with h | ⟨a, vs, ds, e1, _⟩
  · exact h
  · exact absurd e1 (n ds)
end
end Rf

/-! RExp: each operator by values does what the pure one says. -/
namespace Rf
open PySem (Str Addr Value Pos Expr Stmt Scope Program World Heap Shared)
open L2 (V Hp HO SqL SqT Rd upd upd_same upd_ne VK XK TE TT TA TS TG TI WX Cx Ends OpR R2 rI rI0)

section
variable {G : Gl} {H : Hp} {W : Addr → Prop} {ρ : List Addr}
/-! ### data as the library has it -/
mutual
def toPy : D → PySem.PyData
  | .non => .none
  | .bl b => .bool b
  | .int i => .int i
  | .str s => .str ⟨s.toArray⟩
  | .tup xs => .tuple (toPys xs)
  | .lst xs => .list (toPys xs)
  | _ => .none
def toPys : List D → List PySem.PyData
  | [] => []
  | x :: xs => toPy x :: toPys xs
end
mutual
theorem dp_of : ∀ (d : D) (v : V), d.pure = true → Rep G H W ρ d v → L2.Dp G.K H v (toPy d) ∧ (toPy d).canLay0 = true
  | .non, v, _, h => by
    rw [Rep] at h
    subst h
    exact ⟨.non, rfl⟩
  | .bl b, v, _, h => by
    rw [Rep] at h
    subst h
    exact ⟨.bl b, rfl⟩
  | .int i, v, _, h => by
    rw [Rep] at h
    subst h
    exact ⟨.int i, rfl⟩
  | .str s, v, _, h => by
    rw [Rep] at h
    obtain ⟨e, h1, h2⟩ := h
    subst e
    refine ⟨.str _, ?_⟩
    show PySem.PyData.strOk ⟨s.toArray⟩ = true
    unfold PySem.PyData.strOk
    simpa using h2
  | .tup xs, v, p, h => by
    rw [Rep] at h
    obtain ⟨a, vs, e, f, z, hs⟩ := h
    subst e
    have p' : D.pures xs = true := by rw [D.pure] at p; exact p
    obtain ⟨q1, q2⟩ := dps_of xs vs p' hs
    exact ⟨.tup f.sq q1, by rw [toPy, PySem.PyData.canLay0]; exact q2⟩
  | .lst xs, v, p, h => by
    rw [Rep] at h
    obtain ⟨a, vs, e, f, z, hs⟩ := h
    subst e
    have p' : D.pures xs = true := by rw [D.pure] at p; exact p
    obtain ⟨q1, q2⟩ := dps_of xs vs p' hs
    exact ⟨.lst (SqL.of f.1) q1, by rw [toPy, PySem.PyData.canLay0]; exact q2⟩
  | .fn n, _, p, _ => by rw [D.pure] at p; cases p
  | .mref n, _, p, _ => by rw [D.pure] at p; cases p
  | .scr n, _, p, _ => by rw [D.pure] at p; cases p
theorem dps_of : ∀ (ds : List D) (vs : List V), D.pures ds = true → Reps G H W ρ ds vs → L2.DpAll G.K H vs (toPys ds) ∧ PySem.PyData.canLayAll0 (toPys ds) = true
  | [], vs, _, h => by
    rw [h.inv_nil]
    exact ⟨.nil, rfl⟩
  | d :: ds, vs, p, h => by
    obtain ⟨v, r, rfl, h1, h2⟩ := h.inv_cons
    rw [D.pures, Bool.and_eq_true] at p
    obtain ⟨a1, a2⟩ := dp_of d v p.1 h1
    obtain ⟨b1, b2⟩ := dps_of ds r p.2 h2
    exact ⟨.cons a1 b1, by rw [toPys, PySem.PyData.canLayAll0, a2, b2] <;> rfl⟩
end
theorem dpB_of {d : D} {v : V} (p : d.pure = true) (h : RepB G H W ρ d v) : L2.Dp G.K H v (toPy d) ∧ (toPy d).canLay0 = true := by
  rcases h with h | ⟨a, vs, ds, e1, e2, h1, _, z, r⟩
  · exact dp_of d v p h
  · subst e1 e2
    have p' : D.pures ds = true := by rw [D.pure] at p; exact p
    obtain ⟨q1, q2⟩ := dps_of ds vs p' r
    exact ⟨.lst (SqL.of h1) q1, by rw [toPy, PySem.PyData.canLay0]; exact q2⟩
mutual
theorem depth_py : ∀ d : D, d.pure = true → (toPy d).depth = d.depth
  | .non, _ => rfl
  | .bl _, _ => rfl
  | .int _, _ => rfl
  | .str _, _ => rfl
  | .tup xs, p => by
    rw [D.pure] at p
    rw [toPy, PySem.PyData.depth, D.depth, depths_py xs p]
  | .lst xs, p => by
    rw [D.pure] at p
    rw [toPy, PySem.PyData.depth, D.depth, depths_py xs p]
  | .fn _, p => by rw [D.pure] at p; cases p
  | .mref _, p => by rw [D.pure] at p; cases p
  | .scr _, p => by rw [D.pure] at p; cases p
theorem depths_py : ∀ ds : List D, D.pures ds = true → PySem.PyData.depthAll (toPys ds) = D.depths ds
  | [], _ => rfl
  | d :: ds, p => by
    rw [D.pures, Bool.and_eq_true] at p
    rw [toPys, PySem.PyData.depthAll, D.depths, depth_py d p.1, depths_py ds p.2]
end
theorem str_beq (s t : List Nat) : ((⟨s.toArray⟩ : Str) == ⟨t.toArray⟩) = (s == t) := by
  by_cases e : s = t
  · subst e
    simp
  · have h : (⟨s.toArray⟩ : Str) ≠ ⟨t.toArray⟩ := fun z => e (by
      injection z with z
      simpa using z)
    rw [beq_eq_false_iff_ne.mpr h, beq_eq_false_iff_ne.mpr e]
mutual
theorem eqv_py : ∀ (x y : D), x.pure = true → y.pure = true → PySem.PyData.eqv (toPy x) (toPy y) = D.eqv x y
  | .tup xs, .tup ys, p, q => by
    rw [D.pure] at p q
    rw [toPy, toPy, PySem.PyData.eqv, D.eqv, eqvs_py xs ys p q]
  | .lst xs, .lst ys, p, q => by
    rw [D.pure] at p q
    rw [toPy, toPy, PySem.PyData.eqv, D.eqv, eqvs_py xs ys p q]
  | .str s, .str t, _, _ => by
    rw [toPy, toPy, PySem.PyData.eqv, D.eqv, str_beq]
  | .fn _, _, p, _ => by rw [D.pure] at p; cases p
  | .mref _, _, p, _ => by rw [D.pure] at p; cases p
  | .scr _, _, p, _ => by rw [D.pure] at p; cases p
  | _, .fn _, _, p => by rw [D.pure] at p; cases p
  | _, .mref _, _, p => by rw [D.pure] at p; cases p
  | _, .scr _, _, p => by rw [D.pure] at p; cases p
  | .non, .non, _, _ => rfl
  | .non, .bl _, _, _ => rfl
  | .non, .int _, _, _ => rfl
  | .non, .str _, _, _ => rfl
  | .non, .tup _, _, _ => rfl
  | .non, .lst _, _, _ => rfl
  | .bl _, .non, _, _ => rfl
  | .bl _, .bl _, _, _ => rfl
  | .bl _, .int _, _, _ => rfl
  | .bl _, .str _, _, _ => rfl
  | .bl _, .tup _, _, _ => rfl
  | .bl _, .lst _, _, _ => rfl
  | .int _, .non, _, _ => rfl
  | .int _, .bl _, _, _ => rfl
  | .int _, .int _, _, _ => rfl
  | .int _, .str _, _, _ => rfl
  | .int _, .tup _, _, _ => rfl
  | .int _, .lst _, _, _ => rfl
  | .str _, .non, _, _ => rfl
  | .str _, .bl _, _, _ => rfl
  | .str _, .int _, _, _ => rfl
  | .str _, .tup _, _, _ => rfl
  | .str _, .lst _, _, _ => rfl
  | .tup _, .non, _, _ => rfl
  | .tup _, .bl _, _, _ => rfl
  | .tup _, .int _, _, _ => rfl
  | .tup _, .str _, _, _ => rfl
  | .tup _, .lst _, _, _ => rfl
  | .lst _, .non, _, _ => rfl
  | .lst _, .bl _, _, _ => rfl
  | .lst _, .int _, _, _ => rfl
  | .lst _, .str _, _, _ => rfl
  | .lst _, .tup _, _, _ => rfl
theorem eqvs_py : ∀ (xs ys : List D), D.pures xs = true → D.pures ys = true → PySem.PyData.eqvAll (toPys xs) (toPys ys) = D.eqvs xs ys
  | [], [], _, _ => rfl
  | [], _ :: _, _, _ => rfl
  | _ :: _, [], _, _ => rfl
  | x :: xs, y :: ys, p, q => by
    rw [D.pures, Bool.and_eq_true] at p q
    rw [toPys, toPys, PySem.PyData.eqvAll, D.eqvs, eqv_py x y p.1 q.1, eqvs_py xs ys p.2 q.2]
end
theorem any_py (x : D) (p : x.pure = true) : ∀ ys : List D, D.pures ys = true → ((toPys ys).any fun z => PySem.PyData.eqv z (toPy x)) = anyEqv x ys
  | [], _ => rfl
  | y :: ys, q => by
    rw [D.pures, Bool.and_eq_true] at q
    rw [toPys, List.any_cons, anyEqv, eqv_py y x q.1 p, any_py x p ys q.2]
theorem cmp_ok {x y : D} (h : D.cmp x y = true) : x.pure = true ∧ y.pure = true ∧ min x.depth y.depth ≤ 60 := by
  unfold D.cmp at h
  rw [Bool.and_eq_true, Bool.and_eq_true] at h
  exact ⟨h.1.1, h.1.2, of_decide_eq_true h.2⟩
theorem allCmp_ok {x : D} {ys : List D} (h : allCmp x ys = true) : x.pure = true ∧ D.pures ys = true ∧ min (D.depths ys) x.depth ≤ 60 := by
  unfold allCmp at h
  rw [Bool.and_eq_true, Bool.and_eq_true] at h
  exact ⟨h.1.1, h.1.2, of_decide_eq_true h.2⟩
end

/-! ### further operators over the layer -/
section
open PySem PySem.Spec PyProof.Rows L2
variable {X : Cx}
def rEqM (K : PySem.W.Frag) (neg : Bool) : R2 := fun x y H Q => ∃ d e, Dp K H x d ∧ Dp K H y e ∧ d.canLay0 = true ∧ e.canLay0 = true ∧ min d.depth e.depth ≤ 60 ∧ Q (.bl (if neg then !PyData.eqv d e else PyData.eqv d e)) H
theorem op_eqM (hu : X.A.units + 64 < cLine) : OpR X (compareOp .Eq) (rEqM X.K false) := by
  intro pins s σ H x y v u Q I rx ry h
  obtain ⟨d, e, hd, he, sd, se, z, q⟩ := h
  obtain ⟨as, r1⟩ := Dp.reads I d x v hd rx
  obtain ⟨bs, r2⟩ := Dp.reads I e y u he ry
  exact SeqAt.compareEq_reads r1 r2 sd se (by omega) ⟨.bl _, H, I, rfl, q⟩
theorem op_neM (hu : X.A.units + 64 < cLine) : OpR X (compareOp .NotEq) (rEqM X.K true) := by
  intro pins s σ H x y v u Q I rx ry h
  obtain ⟨d, e, hd, he, sd, se, z, q⟩ := h
  obtain ⟨as, r1⟩ := Dp.reads I d x v hd rx
  obtain ⟨bs, r2⟩ := Dp.reads I e y u he ry
  exact SeqAt.compareNe_reads r1 r2 sd se (by omega) ⟨.bl _, H, I, rfl, q⟩
def rInM (K : PySem.W.Frag) (neg : Bool) : R2 := fun x y H Q => ∃ d ds, Dp K H x d ∧ (Dp K H y (.list ds) ∨ Dp K H y (.tuple ds)) ∧ d.canLay0 = true ∧ PyData.canLayAll0 ds = true ∧ min (PyData.depthAll ds) d.depth ≤ 60 ∧
  Q (.bl (if neg then !(ds.any fun z => PyData.eqv z d) else ds.any fun z => PyData.eqv z d)) H
theorem op_inM (hu : X.A.units + 64 < cLine) : OpR X (compareOp .In) (rInM X.K false) := by
  intro pins s σ H x y v u Q I rx ry h
  obtain ⟨d, ds, hd, he, sd, se, z, q⟩ := h
  obtain ⟨as, r1⟩ := Dp.reads I d x v hd rx
  rcases he with he | he
  · obtain ⟨bs, r2⟩ := Dp.reads I _ y u he ry
    exact SeqAt.in_list_reads r2 r1 se sd (by omega) ⟨.bl _, H, I, rfl, q⟩
  · obtain ⟨bs, r2⟩ := Dp.reads I _ y u he ry
    exact SeqAt.in_tuple_reads r2 r1 se sd (by omega) ⟨.bl _, H, I, rfl, q⟩
theorem op_notInM (hu : X.A.units + 64 < cLine) : OpR X (compareOp .NotIn) (rInM X.K true) := by
  intro pins s σ H x y v u Q I rx ry h
  obtain ⟨d, ds, hd, he, sd, se, z, q⟩ := h
  obtain ⟨as, r1⟩ := Dp.reads I d x v hd rx
  rcases he with he | he
  · obtain ⟨bs, r2⟩ := Dp.reads I _ y u he ry
    exact SeqAt.notIn_list_reads r2 r1 se sd (by omega) ⟨.bl _, H, I, rfl, q⟩
  · obtain ⟨bs, r2⟩ := Dp.reads I _ y u he ry
    exact SeqAt.notIn_tuple_reads r2 r1 se sd (by omega) ⟨.bl _, H, I, rfl, q⟩
end

/-! ### what an operator's rule promises -/
/-- a list that is new -/
def NewL (G : Gl) (H0 H : Hp) (W : Addr → Prop) (ρ : List Addr) (d : D) (v : V) : Prop :=
  ∀ ds, d = .lst ds → ∃ p vs, v = .ref p ∧ H0 p = none ∧ H p = some (.lst vs) ∧ ds.length ≤ LIM ∧ Reps G H0 W ρ ds vs
inductive Kd where
  | rep | bor | fre
def PostV (k : Kd) (G : Gl) (H0 H : Hp) (W : Addr → Prop) (ρ : List Addr) (d : D) (v : V) : Prop := match k with
  | .rep => Rep G H W ρ d v
  | .bor => RepB G H W ρ d v
  | .fre => Rep G H W ρ d v ∧ NewL G H0 H W ρ d v
def Gd (G : Gl) (Z : Addr → Prop) (ρ : List Addr) (O : Nat → Option Addr) (m : M) (H : Hp) : Prop := MR G Z ρ O m H ∧ ∀ a, Wr Z ρ O a → Lv H a
def Op1 (k : Kd) (G : Gl) (r : V → Hp → VK → Prop) (o : Op) : Prop := ∀ (Z : Addr → Prop) (ρ : List Addr) (O : Nat → Option Addr) (m : M) (H : Hp) (d1 d : D) (v1 : V) (Q : VK),
  Gd G Z ρ O m H → RepB G H (Wr Z ρ O) ρ d1 v1 → o.app [d1] m = some d →
  (∀ v H', (∀ a u, H a = some u → H' a = some u) → PostV k G H H' (Wr Z ρ O) ρ d v → Q v H') → r v1 H Q
def Op2 (k : Kd) (G : Gl) (r : R2) (o : Op) : Prop := ∀ (Z : Addr → Prop) (ρ : List Addr) (O : Nat → Option Addr) (m : M) (H : Hp) (d1 d2 d : D) (v1 v2 : V) (Q : VK),
  Gd G Z ρ O m H → RepB G H (Wr Z ρ O) ρ d1 v1 → RepB G H (Wr Z ρ O) ρ d2 v2 → o.app [d1, d2] m = some d →
  (∀ v H', (∀ a u, H a = some u → H' a = some u) → PostV k G H H' (Wr Z ρ O) ρ d v → Q v H') → r v1 v2 H Q
section
variable {G : Gl} {Z : Addr → Prop} {ρ : List Addr} {O : Nat → Option Addr} {m : M} {H : Hp}
theorem keep_refl : ∀ a (u : HO), H a = some u → H a = some u := fun _ _ h => h
theorem RepB.int {W : Addr → Prop} {i : Int} {v : V} (h : RepB G H W ρ (.int i) v) : v = .int i := by
  have q := h.rep fun ds z => nomatch z
  rw [Rep] at q
  exact q
theorem RepB.bl {W : Addr → Prop} {i : Bool} {v : V} (h : RepB G H W ρ (.bl i) v) : v = .bl i := by
  have q := h.rep fun ds z => nomatch z
  rw [Rep] at q
  exact q
theorem RepB.str {W : Addr → Prop} {s : List Nat} {v : V} (h : RepB G H W ρ (.str s) v) : v = vstr s ∧ strOk s := by
  have q := h.rep fun ds z => nomatch z
  rw [Rep] at q
  exact q
theorem RepB.tup {W : Addr → Prop} {ds : List D} {v : V} (h : RepB G H W ρ (.tup ds) v) : ∃ a vs, v = .ref a ∧ FzT G.K H W a vs ∧ ds.length ≤ LIM ∧ Reps G H W ρ ds vs := by
  have q := h.rep fun ds z => nomatch z
  rw [Rep] at q
  exact q
theorem rep_int {W : Addr → Prop} (i : Int) : Rep G H W ρ (.int i) (.int i) := by rw [Rep]
theorem rep_bl {W : Addr → Prop} (i : Bool) : Rep G H W ρ (.bl i) (.bl i) := by rw [Rep]
theorem rep_non {W : Addr → Prop} : Rep G H W ρ .non .non := by rw [Rep]
theorem rep_str {W : Addr → Prop} {s : List Nat} (h : strOk s) : Rep G H W ρ (.str s) (vstr s) := by
  rw [Rep]
  exact ⟨rfl, h⟩
/-- a new list at p -/
theorem new_lst {p : Addr} {ds : List D} {vs : List V} (g : Gd G Z ρ O m H) (hp : H p = none) (z : ds.length ≤ LIM) (r : Reps G H (Wr Z ρ O) ρ ds vs) :
    PostV .fre G H (upd H p (.lst vs)) (Wr Z ρ O) ρ (.lst ds) (.ref p) := by
  have nw : ¬ Wr Z ρ O p := fun q => (g.2 p q).some hp
  have r' := Reps.mono (H' := upd H p (.lst vs)) (Kp.new hp) (fun a h => .inl h) (List.prefix_refl _) _ _ r
  refine ⟨?_, fun ds' e => ?_⟩
  · rw [Rep]
    exact ⟨p, vs, rfl, ⟨upd_same, nw⟩, z, r'⟩
  · cases e
    exact ⟨p, vs, rfl, hp, upd_same, z, r⟩
theorem new_tup {p : Addr} {ds : List D} {vs : List V} (g : Gd G Z ρ O m H) (hp : H p = none) (z : ds.length ≤ LIM) (r : Reps G H (Wr Z ρ O) ρ ds vs) :
    Rep G (upd H p (.tup vs)) (Wr Z ρ O) ρ (.tup ds) (.ref p) := by
  have nw : ¬ Wr Z ρ O p := fun q => (g.2 p q).some hp
  have r' := Reps.mono (H' := upd H p (.tup vs)) (Kp.new hp) (fun a h => .inl h) (List.prefix_refl _) _ _ r
  rw [Rep]
  exact ⟨p, vs, rfl, .inl ⟨.inl upd_same, nw⟩, z, r'⟩
theorem prep {H0 : Hp} {W : Addr → Prop} {d : D} {v : V} (h : Rep G H W ρ d v) : PostV .rep G H0 H W ρ d v := h
/-- only a list can be new -/
theorem fre_of {H0 : Hp} {W : Addr → Prop} {d : D} {v : V} (h : Rep G H W ρ d v) (n : ∀ ds, d ≠ .lst ds) : PostV .fre G H0 H W ρ d v := ⟨h, fun ds e => absurd e (n ds)⟩
theorem Op2.or {k : Kd} {r r' : R2} {o : Op} (h : ∀ (Z : Addr → Prop) (ρ : List Addr) (O : Nat → Option Addr) (m : M) (H : Hp) (d1 d2 d : D) (v1 v2 : V) (Q : VK),
  Gd G Z ρ O m H → RepB G H (Wr Z ρ O) ρ d1 v1 → RepB G H (Wr Z ρ O) ρ d2 v2 → o.app [d1, d2] m = some d →
  (∀ v H', (∀ a u, H a = some u → H' a = some u) → PostV k G H H' (Wr Z ρ O) ρ d v → Q v H') → r v1 v2 H Q ∨ r' v1 v2 H Q) : Op2 k G (fun x y H Q => r x y H Q ∨ r' x y H Q) o := h

/-! #### arithmetic -/
def rAdd (K : PySem.W.Frag) : R2 := fun x y H Q => (rI0 (fun i j => .int (i + j))) x y H Q ∨ ((fun x y H Q => ∃ i j, x = V.str i ∧ y = V.str j ∧ i.length + j.length ≤ PySem.sizeLine ∧ Q (.str (i ++ j)) H) x y H Q ∨ (L2.rCat x y H Q ∨ L2.rCatA K x y H Q))
theorem op_addA {X : Cx} : OpR X (PySem.binaryOp .Add) (rAdd X.K) := L2.op_add.or (L2.op_add_str.or (L2.op_cat.or L2.op_catA))
theorem vstr_len (s : List Nat) : (⟨s.toArray⟩ : Str).length = s.length := by show s.toArray.size = s.length; simp

theorem o_add : Op2 .fre G (rAdd G.K) .add := by
  intro Z ρ O m H d1 d2 d v1 v2 Q g h1 h2 e k
  replace e : app_add [d1, d2] = some d := e
  unfold app_add at e
  split at e <;> rename_i hx <;> first | (simp only [List.cons.injEq, and_true] at hx; obtain ⟨rfl, rfl⟩ := hx) | cases e
  · cases e
    rw [h1.int, h2.int]
    exact .inl ⟨_, _, rfl, rfl, k _ _ keep_refl (fre_of (rep_int _) fun _ z => nomatch z)⟩
  · rename_i x y
    split at e <;> cases e
    rename_i hz
    obtain ⟨e1, s1⟩ := h1.str
    obtain ⟨e2, s2⟩ := h2.str
    rw [e1, e2]
    refine .inr (.inl ⟨_, _, rfl, rfl, by rw [vstr_len, vstr_len, ← LIM_eq]; exact hz, ?_⟩)
    have q : (⟨x.toArray⟩ : Str) ++ ⟨y.toArray⟩ = ⟨(x ++ y).toArray⟩ := by
      show (⟨x.toArray ++ y.toArray⟩ : Str) = _
      simp
    rw [q]
    refine k _ _ keep_refl (fre_of (rep_str ⟨by rw [List.length_append]; exact hz, fun c hc => ?_⟩) fun _ z => nomatch z)
    rcases List.mem_append.mp hc with hc | hc
    · exact s1.2 c hc
    · exact s2.2 c hc
  · split at e <;> cases e
    rename_i hz
    obtain ⟨a, vs, e1, q1, z1, r1⟩ := h1.lst
    obtain ⟨b, us, e2, q2, z2, r2⟩ := h2.lst
    rw [e1, e2]
    refine .inr (.inr (.inl ⟨a, b, vs, us, rfl, rfl, q1, q2, by rw [← r1.len, ← r2.len, ← LIM_eq]; exact hz, fun p hp => ?_⟩))
    exact k _ _ (upd_k hp) (new_lst g hp (by rw [List.length_append]; exact hz) (r1.append r2))
  · split at e <;> cases e
    rename_i hz
    obtain ⟨a, vs, e1, q1, z1, r1⟩ := h1.tup
    obtain ⟨b, us, e2, q2, z2, r2⟩ := h2.tup
    rw [e1, e2]
    refine .inr (.inr (.inr ⟨a, b, vs, us, rfl, rfl, q1.sq, q2.sq, by rw [← r1.len, ← r2.len, ← LIM_eq]; exact hz, fun z => ?_, fun _ z => ?_, fun _ _ p hp => ?_⟩))
    · subst z
      have : _ = [] := List.eq_nil_of_length_eq_zero (by rw [r1.len] <;> rfl)
      subst this
      refine k _ _ keep_refl (fre_of ?_ fun _ z => nomatch z)
      rw [Rep]
      exact ⟨b, us, rfl, q2, z2, r2⟩
    · subst z
      have : _ = [] := List.eq_nil_of_length_eq_zero (by rw [r2.len] <;> rfl)
      subst this
      refine k _ _ keep_refl (fre_of ?_ fun _ z => nomatch z)
      rw [Rep]
      refine ⟨a, vs, rfl, q1, ?_, ?_⟩
      · simpa using z1
      · simpa using r1
    · exact k _ _ (upd_k hp) (fre_of (new_tup g hp (by rw [List.length_append]; exact hz) (r1.append r2)) fun _ z => nomatch z)
theorem o_sub : Op2 .rep G (rI0 fun i j => .int (i - j)) .sub := by
  intro Z ρ O m H d1 d2 d v1 v2 Q g h1 h2 e k
  replace e : app_sub [d1, d2] = some d := e
  unfold app_sub at e
  split at e <;> rename_i hx <;> first | (simp only [List.cons.injEq, and_true] at hx; obtain ⟨rfl, rfl⟩ := hx) | cases e
  cases e
  rw [h1.int, h2.int]
  exact ⟨_, _, rfl, rfl, k _ _ keep_refl (prep (rep_int _))⟩
theorem B64_ok {i : Int} (h : B64 i = true) : -(2 ^ 64) < i ∧ i < 2 ^ 64 := by
  unfold B64 at h
  rw [Bool.and_eq_true, decide_eq_true_eq, decide_eq_true_eq] at h
  have e : (2 : Int) ^ 64 = 18446744073709551616 := by decide
  rw [e]
  exact h
theorem small62_ok {i : Int} (h : small62 i = true) : -(2 ^ 62) ≤ i ∧ i < 2 ^ 62 := by
  unfold small62 at h
  rw [Bool.and_eq_true, decide_eq_true_eq, decide_eq_true_eq] at h
  have e : (2 : Int) ^ 62 = 4611686018427387904 := by decide
  rw [e]
  exact h
def rMul (K : PySem.W.Frag) : R2 := fun x y H Q => (rI L2.CMul fun i j => .int (i * j)) x y H Q ∨ (L2.rRep x y H Q ∨ L2.rRepT K x y H Q)
theorem op_mulA {X : Cx} : OpR X (PySem.binaryOp .Mult) (rMul X.K) := L2.op_mul.or (L2.op_rep.or L2.op_repT)
theorem rep_len {α : Type} (xs : List α) (k : Nat) : (List.replicate k xs).flatten.length = k * xs.length := by
  induction k with
  | zero => simp
  | succ k ih => rw [List.replicate_succ, List.flatten_cons, List.length_append, ih, Nat.succ_mul, Nat.add_comm]
theorem o_mul : Op2 .fre G (rMul G.K) .mul := by
  intro Z ρ O m H d1 d2 d v1 v2 Q g h1 h2 e k
  replace e : app_mul [d1, d2] = some d := e
  unfold app_mul at e
  split at e <;> rename_i hx <;> first | (simp only [List.cons.injEq, and_true] at hx; obtain ⟨rfl, rfl⟩ := hx) | cases e
  · split at e <;> cases e
    rename_i hz
    rw [h1.int, h2.int]
    refine .inl ⟨_, _, rfl, rfl, ?_, k _ _ keep_refl (fre_of (rep_int _) fun _ z => nomatch z)⟩
    rcases Bool.or_eq_true_iff.mp hz with hz | hz
    · exact .inl (B64_ok hz)
    · exact .inr (B64_ok hz)
  · split at e <;> cases e
    rename_i hz
    rw [Bool.and_eq_true, decide_eq_true_eq] at hz
    obtain ⟨a, vs, e1, q1, z1, r1⟩ := h1.lst
    rw [e1, h2.int]
    have b := small62_ok hz.1
    refine .inr (.inl ⟨a, _, vs, rfl, rfl, q1, by omega, by omega, by rw [← r1.len, ← LIM_eq]; exact hz.2, fun p hp => ?_⟩)
    exact k _ _ (upd_k hp) (new_lst g hp (by rw [rep_len, Nat.mul_comm]; exact hz.2) (r1.rep _))
  · split at e <;> cases e
    rename_i hz
    rw [Bool.and_eq_true, Bool.and_eq_true, Bool.and_eq_true, decide_eq_true_eq, decide_eq_true_eq, decide_eq_true_eq, decide_eq_true_eq] at hz
    obtain ⟨⟨⟨y1, y2⟩, y3⟩, y4⟩ := hz
    obtain ⟨a, vs, e1, q1, z1, r1⟩ := h1.tup
    have hl := r1.len
    rw [e1, h2.int]
    refine .inr (.inr ⟨a, _, vs, rfl, rfl, q1.sq, fun z => ?_, y1, y2, by omega, fun p hp => ?_⟩)
    · subst z
      have hl' : _ = 0 := hl
      omega
    · refine k _ _ (upd_k hp) (fre_of (new_tup g hp ?_ (r1.rep _)) fun _ z => nomatch z)
      rw [rep_len]
      exact Nat.le_trans (Nat.mul_le_mul (n₂ := 1000) (Int.toNat_le.mpr (by omega)) y4) (by decide)
theorem o_fdiv : Op2 .rep G (rI L2.CDivW fun i j => .int (i / j)) .fdiv := by
  intro Z ρ O m H d1 d2 d v1 v2 Q g h1 h2 e k
  replace e : app_fdiv [d1, d2] = some d := e
  unfold app_fdiv at e
  split at e <;> rename_i hx <;> first | (simp only [List.cons.injEq, and_true] at hx; obtain ⟨rfl, rfl⟩ := hx) | cases e
  split at e <;> cases e
  rename_i hz
  rw [Bool.and_eq_true, decide_eq_true_eq, decide_eq_true_eq] at hz
  rw [h1.int, h2.int]
  exact ⟨_, _, rfl, rfl, hz, k _ _ keep_refl (prep (rep_int _))⟩
theorem o_mod : Op2 .rep G (rI (fun _ j => 0 < j) fun i j => .int (i % j)) .mod := by
  intro Z ρ O m H d1 d2 d v1 v2 Q g h1 h2 e k
  replace e : app_mod [d1, d2] = some d := e
  unfold app_mod at e
  split at e <;> rename_i hx <;> first | (simp only [List.cons.injEq, and_true] at hx; obtain ⟨rfl, rfl⟩ := hx) | cases e
  split at e <;> cases e
  rename_i hz
  rw [h1.int, h2.int]
  exact ⟨_, _, rfl, rfl, hz, k _ _ keep_refl (prep (rep_int _))⟩
theorem o_pow : Op2 .rep G (rI L2.CPow fun i j => .int (i ^ j.toNat)) .pow := by
  intro Z ρ O m H d1 d2 d v1 v2 Q g h1 h2 e k
  replace e : app_pow [d1, d2] = some d := e
  unfold app_pow at e
  split at e <;> rename_i hx <;> first | (simp only [List.cons.injEq, and_true] at hx; obtain ⟨rfl, rfl⟩ := hx) | cases e
  split at e <;> cases e
  rename_i hz
  rw [Bool.and_eq_true, Bool.and_eq_true, decide_eq_true_eq, decide_eq_true_eq] at hz
  have b := B64_ok hz.1.1
  rw [h1.int, h2.int]
  refine ⟨_, _, rfl, rfl, ⟨hz.1.2, by omega, ?_⟩, k _ _ keep_refl (prep (rep_int _))⟩
  have e2 : (2 : Int) ^ 64 = 18446744073709551616 := by decide
  have e3 : (2 : Nat) ^ 64 = 18446744073709551616 := by decide
  rw [e2] at b
  rw [e3]
  omega
theorem o_neg : Op1 .rep G (L2.rU fun i => .int (-i)) .neg := by
  intro Z ρ O m H d1 d v1 Q g h1 e k
  replace e : app_neg [d1] = some d := e
  unfold app_neg at e
  split at e <;> rename_i hx <;> first | (simp only [List.cons.injEq, and_true] at hx; subst hx) | cases e
  cases e
  rw [h1.int]
  exact ⟨_, rfl, k _ _ keep_refl (prep (rep_int _))⟩

/-! #### comparisons -/
theorem o_eq : Op2 .rep G (rEqM G.K false) .eq := by
  intro Z ρ O m H d1 d2 d v1 v2 Q g h1 h2 e k
  replace e : (if D.cmp d1 d2 = true then some (D.bl (D.eqv d1 d2)) else none) = some d := e
  split at e <;> cases e
  rename_i hz
  obtain ⟨p1, p2, z⟩ := cmp_ok hz
  obtain ⟨a1, a2⟩ := dpB_of p1 h1
  obtain ⟨b1, b2⟩ := dpB_of p2 h2
  refine ⟨_, _, a1, b1, a2, b2, by rw [depth_py _ p1, depth_py _ p2]; exact z, ?_⟩
  show Q (.bl (PySem.PyData.eqv (toPy d1) (toPy d2))) H
  rw [eqv_py _ _ p1 p2]
  exact k _ _ keep_refl (prep (rep_bl _))
theorem o_ne : Op2 .rep G (rEqM G.K true) .ne := by
  intro Z ρ O m H d1 d2 d v1 v2 Q g h1 h2 e k
  replace e : (if D.cmp d1 d2 = true then some (D.bl (!D.eqv d1 d2)) else none) = some d := e
  split at e <;> cases e
  rename_i hz
  obtain ⟨p1, p2, z⟩ := cmp_ok hz
  obtain ⟨a1, a2⟩ := dpB_of p1 h1
  obtain ⟨b1, b2⟩ := dpB_of p2 h2
  refine ⟨_, _, a1, b1, a2, b2, by rw [depth_py _ p1, depth_py _ p2]; exact z, ?_⟩
  show Q (.bl (!PySem.PyData.eqv (toPy d1) (toPy d2))) H
  rw [eqv_py _ _ p1 p2]
  exact k _ _ keep_refl (prep (rep_bl _))
theorem o_lt : Op2 .rep G (rI0 fun i j => .bl (decide (i < j))) .lt := by
  intro Z ρ O m H d1 d2 d v1 v2 Q g h1 h2 e k
  replace e : app_lt [d1, d2] = some d := e
  unfold app_lt at e
  split at e <;> rename_i hx <;> first | (simp only [List.cons.injEq, and_true] at hx; obtain ⟨rfl, rfl⟩ := hx) | cases e
  cases e
  rw [h1.int, h2.int]
  exact ⟨_, _, rfl, rfl, k _ _ keep_refl (prep (rep_bl _))⟩
theorem o_le : Op2 .rep G (rI0 fun i j => .bl (decide (i ≤ j))) .le := by
  intro Z ρ O m H d1 d2 d v1 v2 Q g h1 h2 e k
  replace e : app_le [d1, d2] = some d := e
  unfold app_le at e
  split at e <;> rename_i hx <;> first | (simp only [List.cons.injEq, and_true] at hx; obtain ⟨rfl, rfl⟩ := hx) | cases e
  cases e
  rw [h1.int, h2.int]
  exact ⟨_, _, rfl, rfl, k _ _ keep_refl (prep (rep_bl _))⟩
theorem o_gt : Op2 .rep G (rI0 fun i j => .bl (decide (j < i))) .gt := by
  intro Z ρ O m H d1 d2 d v1 v2 Q g h1 h2 e k
  replace e : app_gt [d1, d2] = some d := e
  unfold app_gt at e
  split at e <;> rename_i hx <;> first | (simp only [List.cons.injEq, and_true] at hx; obtain ⟨rfl, rfl⟩ := hx) | cases e
  cases e
  rw [h1.int, h2.int]
  exact ⟨_, _, rfl, rfl, k _ _ keep_refl (prep (rep_bl _))⟩
theorem o_ge : Op2 .rep G (rI0 fun i j => .bl (decide (j ≤ i))) .ge := by
  intro Z ρ O m H d1 d2 d v1 v2 Q g h1 h2 e k
  replace e : app_ge [d1, d2] = some d := e
  unfold app_ge at e
  split at e <;> rename_i hx <;> first | (simp only [List.cons.injEq, and_true] at hx; obtain ⟨rfl, rfl⟩ := hx) | cases e
  cases e
  rw [h1.int, h2.int]
  exact ⟨_, _, rfl, rfl, k _ _ keep_refl (prep (rep_bl _))⟩
theorem repB_non {W : Addr → Prop} {d : D} {v : V} (h : RepB G H W ρ d v) : decide (v = .non) = d.isNon := by
  rcases h with h | ⟨a, vs, ds, e1, e2, _⟩
  · cases d <;> rw [Rep] at h
    · subst h; rfl
    · subst h; rfl
    · subst h; rfl
    · obtain ⟨e, _⟩ := h; subst e; rfl
    · obtain ⟨a, vs, e, _⟩ := h; subst e; rfl
    · obtain ⟨a, vs, e, _⟩ := h; subst e; rfl
    · obtain ⟨x, a, _, _, _, e⟩ := h; subst e; rfl
    · obtain ⟨a, _, e⟩ := h; subst e; rfl
    · obtain ⟨a, e, _⟩ := h; subst e; rfl
  · subst e1 e2
    rfl
def rIsN : V → Hp → VK → Prop := fun x H Q => Q (.bl (decide (x = .non))) H
def rNotN : V → Hp → VK → Prop := fun x H Q => Q (.bl (!decide (x = .non))) H
theorem o_isN : Op1 .rep G rIsN .isN := by
  intro Z ρ O m H d1 d v1 Q g h1 e k
  replace e : app_isN [d1] = some d := e
  unfold app_isN at e
  cases e
  show Q (.bl (decide (v1 = .non))) H
  rw [repB_non h1]
  exact k _ _ keep_refl (prep (rep_bl _))
theorem o_notN : Op1 .rep G rNotN .notN := by
  intro Z ρ O m H d1 d v1 Q g h1 e k
  replace e : app_notN [d1] = some d := e
  unfold app_notN at e
  cases e
  show Q (.bl (!decide (v1 = .non))) H
  rw [repB_non h1]
  exact k _ _ keep_refl (prep (rep_bl _))
theorem dec_beq (a b : Bool) : decide (a = b) = (a == b) := by cases a <;> cases b <;> rfl
theorem o_isB : Op2 .rep G L2.rIsB .isB := by
  intro Z ρ O m H d1 d2 d v1 v2 Q g h1 h2 e k
  replace e : app_isB [d1, d2] = some d := e
  unfold app_isB at e
  split at e <;> rename_i hx <;> first | (simp only [List.cons.injEq, and_true] at hx; obtain ⟨rfl, rfl⟩ := hx) | cases e
  cases e
  rw [h1.bl, h2.bl]
  refine ⟨_, _, rfl, rfl, ?_⟩
  rw [dec_beq]
  exact k _ _ keep_refl (prep (rep_bl _))
theorem o_notB : Op2 .rep G L2.rNotB .notB := by
  intro Z ρ O m H d1 d2 d v1 v2 Q g h1 h2 e k
  replace e : app_notB [d1, d2] = some d := e
  unfold app_notB at e
  split at e <;> rename_i hx <;> first | (simp only [List.cons.injEq, and_true] at hx; obtain ⟨rfl, rfl⟩ := hx) | cases e
  cases e
  rw [h1.bl, h2.bl]
  refine ⟨_, _, rfl, rfl, ?_⟩
  rw [dec_beq]
  exact k _ _ keep_refl (prep (rep_bl _))
def rInA (K : PySem.W.Frag) (neg : Bool) : R2 := fun x y H Q => rInM K neg x y H Q ∨ ((fun x y H Q => ∃ (c : Nat) (z : Str), x = V.str ⟨#[c]⟩ ∧ y = V.str z ∧ Q (.bl (if neg then !decide (c ∈ z.cps.toList) else decide (c ∈ z.cps.toList))) H) x y H Q)
theorem op_inA {X : Cx} (hu : X.A.units + 64 < PySem.cLine) : OpR X (PySem.compareOp .In) (rInA X.K false) := (op_inM hu).or L2.op_in_sign
theorem op_notInA {X : Cx} (hu : X.A.units + 64 < PySem.cLine) : OpR X (PySem.compareOp .NotIn) (rInA X.K true) := (op_notInM hu).or L2.op_notIn_sign
theorem dp_lst {W : Addr → Prop} {ds : List D} {v : V} (p : D.pures ds = true) (h : RepB G H W ρ (.lst ds) v) : L2.Dp G.K H v (.list (toPys ds)) ∧ PySem.PyData.canLayAll0 (toPys ds) = true := by
  have q := dpB_of (d := .lst ds) (by rw [D.pure]; exact p) h
  rw [toPy, PySem.PyData.canLay0] at q
  exact q
theorem dp_tup {W : Addr → Prop} {ds : List D} {v : V} (p : D.pures ds = true) (h : RepB G H W ρ (.tup ds) v) : L2.Dp G.K H v (.tuple (toPys ds)) ∧ PySem.PyData.canLayAll0 (toPys ds) = true := by
  have q := dpB_of (d := .tup ds) (by rw [D.pure]; exact p) h
  rw [toPy, PySem.PyData.canLay0] at q
  exact q
theorem o_isin : Op2 .rep G (rInA G.K false) .isin := by
  intro Z ρ O m H d1 d2 d v1 v2 Q g h1 h2 e k
  replace e : app_isin [d1, d2] = some d := e
  unfold app_isin at e
  split at e <;> rename_i hx <;> first | (simp only [List.cons.injEq, and_true] at hx; obtain ⟨rfl, rfl⟩ := hx) | cases e
  · split at e <;> cases e
    rename_i hz
    obtain ⟨p1, p2, z⟩ := allCmp_ok hz
    obtain ⟨a1, a2⟩ := dpB_of p1 h1
    obtain ⟨b1, b2⟩ := dp_lst p2 h2
    refine .inl ⟨_, _, a1, .inl b1, a2, b2, by rw [depth_py _ p1, depths_py _ p2]; exact z, ?_⟩
    show Q (.bl (List.any _ _)) H
    rw [any_py _ p1 _ p2]
    exact k _ _ keep_refl (prep (rep_bl _))
  · split at e <;> cases e
    rename_i hz
    obtain ⟨p1, p2, z⟩ := allCmp_ok hz
    obtain ⟨a1, a2⟩ := dpB_of p1 h1
    obtain ⟨b1, b2⟩ := dp_tup p2 h2
    refine .inl ⟨_, _, a1, .inr b1, a2, b2, by rw [depth_py _ p1, depths_py _ p2]; exact z, ?_⟩
    show Q (.bl (List.any _ _)) H
    rw [any_py _ p1 _ p2]
    exact k _ _ keep_refl (prep (rep_bl _))
  · cases e
    obtain ⟨e1, s1⟩ := h1.str
    obtain ⟨e2, s2⟩ := h2.str
    rw [e1, e2]
    exact .inr ⟨_, _, rfl, rfl, k _ _ keep_refl (prep (rep_bl _))⟩
theorem o_notin : Op2 .rep G (rInA G.K true) .notin := by
  intro Z ρ O m H d1 d2 d v1 v2 Q g h1 h2 e k
  replace e : app_notin [d1, d2] = some d := e
  unfold app_notin at e
  split at e <;> rename_i hx <;> first | (simp only [List.cons.injEq, and_true] at hx; obtain ⟨rfl, rfl⟩ := hx) | cases e
  · split at e <;> cases e
    rename_i hz
    obtain ⟨p1, p2, z⟩ := allCmp_ok hz
    obtain ⟨a1, a2⟩ := dpB_of p1 h1
    obtain ⟨b1, b2⟩ := dp_lst p2 h2
    refine .inl ⟨_, _, a1, .inl b1, a2, b2, by rw [depth_py _ p1, depths_py _ p2]; exact z, ?_⟩
    show Q (.bl (!List.any _ _)) H
    rw [any_py _ p1 _ p2]
    exact k _ _ keep_refl (prep (rep_bl _))
  · split at e <;> cases e
    rename_i hz
    obtain ⟨p1, p2, z⟩ := allCmp_ok hz
    obtain ⟨a1, a2⟩ := dpB_of p1 h1
    obtain ⟨b1, b2⟩ := dp_tup p2 h2
    refine .inl ⟨_, _, a1, .inr b1, a2, b2, by rw [depth_py _ p1, depths_py _ p2]; exact z, ?_⟩
    show Q (.bl (!List.any _ _)) H
    rw [any_py _ p1 _ p2]
    exact k _ _ keep_refl (prep (rep_bl _))
  · cases e
    obtain ⟨e1, s1⟩ := h1.str
    obtain ⟨e2, s2⟩ := h2.str
    rw [e1, e2]
    exact .inr ⟨_, _, rfl, rfl, k _ _ keep_refl (prep (rep_bl _))⟩

/-! #### items -/
theorem ixN_eq (n : Nat) (i : Int) : ixN n i = L2.ixN n i := rfl
theorem atI_of {α : Type} {xs : List α} {i : Int} {d : α} (h : ((ixN xs.length i).bind fun j => xs[j]?) = some d) : L2.atI xs i = some d := h
theorem reps_at {W : Addr → Prop} {ds : List D} {vs : List V} {i : Int} {d : D} (r : Reps G H W ρ ds vs) (h : ((ixN ds.length i).bind fun j => ds[j]?) = some d) : ∃ v, L2.atI vs i = some v ∧ Rep G H W ρ d v := by
  obtain ⟨j, h1, h2⟩ := Option.bind_eq_some_iff.mp h
  obtain ⟨v, e, q⟩ := r.get h2
  refine ⟨v, ?_, q⟩
  show (L2.ixN vs.length i).bind (fun j => vs[j]?) = some v
  rw [← r.len, ← ixN_eq, h1]
  exact e
theorem o_ix : Op2 .rep G (L2.rIx G.K) .ix := by
  intro Z ρ O m H d1 d2 d v1 v2 Q g h1 h2 e k
  replace e : app_ix [d1, d2] m = some d := e
  unfold app_ix at e
  split at e <;> rename_i hx <;> first | (simp only [List.cons.injEq, and_true] at hx; obtain ⟨rfl, rfl⟩ := hx) | cases e
  · obtain ⟨a, vs, e1, q1, z1, r1⟩ := h1.lst
    obtain ⟨v, ev, rv⟩ := reps_at r1 e
    rw [e1, h2.int]
    exact .inl ⟨a, vs, _, v, rfl, rfl, SqL.of q1, ev, k _ _ keep_refl (prep rv)⟩
  · obtain ⟨a, vs, e1, q1, z1, r1⟩ := h1.tup
    obtain ⟨v, ev, rv⟩ := reps_at r1 e
    rw [e1, h2.int]
    exact .inr (.inl ⟨a, vs, _, v, rfl, rfl, q1.sq, ev, k _ _ keep_refl (prep rv)⟩)
  · obtain ⟨e1, s1⟩ := h1.str
    obtain ⟨j, q1, q2⟩ := Option.bind_eq_some_iff.mp e
    obtain ⟨c, q3, q4⟩ := Option.map_eq_some_iff.mp q2
    subst q4
    rw [e1, h2.int]
    refine .inr (.inr ⟨_, _, c, rfl, rfl, by rw [vstr_len, ← LIM_eq]; exact s1.1, ?_, k (vstr [c]) _ keep_refl (prep (rep_str ⟨show 1 ≤ LIM by decide, fun c' hc => ?_⟩))⟩)
    · show (L2.ixN (List.toArray _).toList.length _).bind (fun j => (List.toArray _).toList[j]?) = some c
      rw [List.toList_toArray, ← ixN_eq, q1]
      exact q3
    · rw [List.mem_singleton] at hc
      subst hc
      exact s1.2 _ (List.mem_of_getElem? q3)
  · split at e
    · rename_i n i xs hm
      obtain ⟨a, vs, e1, q1, z1, r1⟩ := g.1.mem _ _ hm
      have q := h1.rep fun ds z => nomatch z
      rw [Rep] at q
      obtain ⟨a', e2, q2⟩ := q
      rw [e1] at e2
      cases e2
      obtain ⟨v, ev, rv⟩ := reps_at r1 e
      rw [q2, h2.int]
      exact .inl ⟨a, vs, _, v, rfl, rfl, SqL.of q1, ev, k _ _ keep_refl (prep rv)⟩
    · cases e
  · have q := h1.rep fun ds z => nomatch z
    rw [Rep] at q
    obtain ⟨a, e1, f⟩ := q
    obtain ⟨j, q1, q2⟩ := Option.bind_eq_some_iff.mp e
    obtain ⟨c, q3, q4⟩ := Option.map_eq_some_iff.mp q2
    subst q4
    rw [e1, h2.int]
    refine .inl ⟨a, _, _, .int c, rfl, rfl, f.sq, ?_, k _ _ keep_refl (prep (rep_int _))⟩
    show (L2.ixN (List.map _ _).length _).bind (fun j => (List.map _ _)[j]?) = some _
    rw [List.length_map, ← ixN_eq, q1]
    show (List.map _ _)[j]? = some _
    rw [List.getElem?_map, q3]
    rfl
end
end Rf

/-! RExp2: further operators: slices, built-in calls. -/
namespace Rf
open PySem (Str Addr Value Pos Expr Stmt Scope Program World Heap Shared)
open L2 (V Hp HO SqL SqT Rd upd upd_same upd_ne VK XK TE TT TA TS TG TI WX Cx Ends OpR R2 rI rI0)
section
variable {G : Gl} {Z : Addr → Prop} {ρ : List Addr} {O : Nat → Option Addr} {m : M} {H : Hp}
/-! #### slices -/
def SlK (k : Kd) (G : Gl) (r : V → Option Int → Option Int → Hp → VK → Prop) (lo hi : Option Int) (f : D → Option D) : Prop := ∀ (Z : Addr → Prop) (ρ : List Addr) (O : Nat → Option Addr) (m : M) (H : Hp) (d1 d : D) (v1 : V) (Q : VK),
  Gd G Z ρ O m H → RepB G H (Wr Z ρ O) ρ d1 v1 → f d1 = some d →
  (∀ v H', (∀ a u, H a = some u → H' a = some u) → PostV k G H H' (Wr Z ρ O) ρ d v → Q v H') → r v1 lo hi H Q
def rSl (K : PySem.W.Frag) : V → Option Int → Option Int → Hp → VK → Prop := fun x lo hi H Q => L2.rSlL K x lo hi H Q ∨ (L2.rSlA K x lo hi H Q ∨ L2.rSlS x lo hi H Q)
theorem sl_any {X : Cx} : L2.SlR X (rSl X.K) := L2.sl_list.or (L2.sl_tupA.or L2.sl_str)
theorem sIx_eq (n d : Nat) (v : Int) : HT.sIx n d (some v) = sIx n v := rfl
def slG (f : Nat → Nat × Nat) : D → Option D
  | .lst xs => some (D.lst (cut D xs (f xs.length).1 (f xs.length).2))
  | .tup xs => some (D.tup (cut D xs (f xs.length).1 (f xs.length).2))
  | .str xs => some (D.str (cut Nat xs (f xs.length).1 (f xs.length).2))
  | _ => none
/-- a slice of any make: from a to b -/
theorem sl_gen {d1 d : D} {v1 : V} {lo hi : Option Int} {Q : VK} (g : Gd G Z ρ O m H) (h1 : RepB G H (Wr Z ρ O) ρ d1 v1) (f : ∀ n, Nat × Nat) (hf : ∀ n, f n = (HT.sIx n 0 lo, HT.sIx n n hi))
    (e : slG f d1 = some d)
    (k : ∀ v H', (∀ a u, H a = some u → H' a = some u) → PostV .fre G H H' (Wr Z ρ O) ρ d v → Q v H') : rSl G.K v1 lo hi H Q := by
  have lec : ∀ {α : Type} (xs : List α) (a b : Nat), (cut α xs a b).length ≤ xs.length := fun xs a b => by
    unfold cut
    rw [List.length_take, List.length_drop]
    omega
  unfold slG at e
  split at e <;> cases e
  · rename_i xs
    obtain ⟨a, vs, e1, q1, z1, r1⟩ := h1.lst
    rw [e1]
    refine .inl ⟨a, vs, rfl, SqL.of q1, fun p hp => ?_⟩
    refine k _ _ (upd_k hp) (new_lst g hp (Nat.le_trans (lec _ _ _) z1) ?_)
    unfold cut L2.cutV
    rw [hf, r1.len]
    exact (r1.drop _).take _
  · rename_i xs
    obtain ⟨a, vs, e1, q1, z1, r1⟩ := h1.tup
    rw [e1]
    refine .inr (.inl ⟨a, vs, rfl, q1.sq, fun z => ?_, fun _ p hp => ?_⟩)
    · refine k _ _ keep_refl (fre_of ?_ fun _ z => nomatch z)
      have ec : cut D xs (f xs.length).1 (f xs.length).2 = xs := by
        unfold cut
        rw [hf, r1.len, z.1, z.2, List.drop_zero, Nat.sub_zero, ← r1.len, List.take_length]
      rw [ec, Rep]
      exact ⟨a, vs, rfl, q1, z1, r1⟩
    · refine k _ _ (upd_k hp) (fre_of (new_tup g hp (Nat.le_trans (lec _ _ _) z1) ?_) fun _ z => nomatch z)
      unfold cut L2.cutV
      rw [hf, r1.len]
      exact (r1.drop _).take _
  · rename_i xs
    obtain ⟨e1, s1⟩ := h1.str
    rw [e1]
    refine .inr (.inr ⟨_, rfl, by rw [vstr_len, ← LIM_eq]; exact s1.1, ?_⟩)
    have ec : L2.cutS ⟨xs.toArray⟩ lo hi = ⟨(cut Nat xs (f xs.length).1 (f xs.length).2).toArray⟩ := by
      unfold L2.cutS cut
      rw [hf, vstr_len]
    rw [ec]
    refine k _ _ keep_refl (fre_of (rep_str ⟨Nat.le_trans (lec _ _ _) s1.1, fun c hc => s1.2 c ?_⟩) fun _ z => nomatch z)
    unfold cut at hc
    exact List.mem_of_mem_drop (List.mem_of_mem_take hc)
theorem cut_drop {α : Type} (xs : List α) (a : Nat) : cut α xs a xs.length = xs.drop a := by
  unfold cut
  exact List.take_of_length_le (by rw [List.length_drop]; omega)
theorem cut_take {α : Type} (xs : List α) (b : Nat) : cut α xs 0 b = xs.take b := by
  unfold cut
  rw [List.drop_zero, Nat.sub_zero]
theorem o_slF (i : Int) : SlK .fre G (rSl G.K) (some i) none fun d => app_slF [d, .int i] := by
  intro Z ρ O m H d1 d v1 Q g h1 e k
  refine sl_gen g h1 (fun n => (sIx n i, n)) (fun n => rfl) ?_ k
  rw [← e]
  cases d1 <;> first | rfl | (show some _ = some _; rw [cut_drop])
theorem o_slT (j : Int) : SlK .fre G (rSl G.K) none (some j) fun d => app_slT [d, .int j] := by
  intro Z ρ O m H d1 d v1 Q g h1 e k
  refine sl_gen g h1 (fun n => (0, sIx n j)) (fun n => rfl) ?_ k
  rw [← e]
  cases d1 <;> first | rfl | (show some _ = some _; rw [cut_take])
theorem o_slFT (i j : Int) : SlK .fre G (rSl G.K) (some i) (some j) fun d => app_slFT [d, .int i, .int j] := by
  intro Z ρ O m H d1 d v1 Q g h1 e k
  refine sl_gen g h1 (fun n => (sIx n i, sIx n j)) (fun n => rfl) ?_ k
  rw [← e]
  cases d1 <;> rfl

/-! #### built-in calls -/
def OpC1 (k : Kd) (G : Gl) (r : List V → Hp → VK → Prop) (o : Op) : Prop := ∀ (Z : Addr → Prop) (ρ : List Addr) (O : Nat → Option Addr) (m : M) (H : Hp) (d1 d : D) (v1 : V) (Q : VK),
  Gd G Z ρ O m H → RepB G H (Wr Z ρ O) ρ d1 v1 → o.app [d1] m = some d →
  (∀ v H', (∀ a u, H a = some u → H' a = some u) → PostV k G H H' (Wr Z ρ O) ρ d v → Q v H') → r [v1] H Q
def OpC2 (k : Kd) (G : Gl) (r : List V → Hp → VK → Prop) (o : Op) : Prop := ∀ (Z : Addr → Prop) (ρ : List Addr) (O : Nat → Option Addr) (m : M) (H : Hp) (d1 d2 d : D) (v1 v2 : V) (Q : VK),
  Gd G Z ρ O m H → RepB G H (Wr Z ρ O) ρ d1 v1 → RepB G H (Wr Z ρ O) ρ d2 v2 → o.app [d1, d2] m = some d →
  (∀ v H', (∀ a u, H a = some u → H' a = some u) → PostV k G H H' (Wr Z ρ O) ρ d v → Q v H') → r [v1, v2] H Q
abbrev RL := List V → Hp → VK → Prop
def orL (r r' : RL) : RL := fun xs H Q => r xs H Q ∨ r' xs H Q
def rLenSq (K : PySem.W.Frag) : RL := fun xs H Q => ∃ p ys, xs = [.ref p] ∧ (SqL K H p ys ∨ SqT K H p ys) ∧ Q (.int ys.length) H
def rLenS : RL := fun xs H Q => ∃ z, xs = [.str z] ∧ z.length ≤ PySem.sizeLine ∧ Q (.int z.length) H
def rLenA (K : PySem.W.Frag) : RL := orL (rLenSq K) rLenS
theorem c_len {X : Cx} : L2.CallR X (.builtin "len") (rLenA X.K) := L2.call_len_seq.or L2.call_len_str
theorem o_len : OpC1 .rep G (rLenA G.K) .len := by
  intro Z ρ O m H d1 d v1 Q g h1 e k
  replace e : app_len [d1] = some d := e
  unfold app_len at e
  split at e <;> rename_i hx <;> first | (simp only [List.cons.injEq, and_true] at hx; subst hx) | cases e
  · cases e
    obtain ⟨a, vs, e1, q1, z1, r1⟩ := h1.lst
    rw [e1]
    refine .inl ⟨a, vs, rfl, .inl (SqL.of q1), ?_⟩
    rw [← r1.len]
    exact k _ _ keep_refl (prep (rep_int _))
  · cases e
    have q := h1.rep fun ds z => nomatch z
    rw [Rep] at q
    obtain ⟨a, e1, f⟩ := q
    rw [e1]
    refine .inl ⟨a, _, rfl, .inl f.sq, ?_⟩
    rw [List.length_map]
    exact k _ _ keep_refl (prep (rep_int _))
  · cases e
    obtain ⟨a, vs, e1, q1, z1, r1⟩ := h1.tup
    rw [e1]
    refine .inl ⟨a, vs, rfl, .inr q1.sq, ?_⟩
    rw [← r1.len]
    exact k _ _ keep_refl (prep (rep_int _))
  · cases e
    obtain ⟨e1, s1⟩ := h1.str
    rw [e1]
    refine .inr ⟨_, rfl, by rw [vstr_len, ← LIM_eq]; exact s1.1, ?_⟩
    rw [vstr_len]
    exact k _ _ keep_refl (prep (rep_int _))
def rInt1 : RL := fun xs H Q => (∃ i, xs = [.int i] ∧ Q (.int i) H) ∨ ∃ k, xs = [.bl k] ∧ Q (.int (if k then 1 else 0)) H
theorem c_int {X : Cx} : L2.CallR X (.type "int") rInt1 := L2.call_int1
theorem o_min2 : OpC2 .rep G (fun xs H Q => ∃ i j, xs = [.int i, .int j] ∧ Q (.int (if j < i then j else i)) H) .min2 := by
  intro Z ρ O m H d1 d2 d v1 v2 Q g h1 h2 e k
  replace e : app_min2 [d1, d2] = some d := e
  unfold app_min2 at e
  split at e <;> rename_i hx <;> first | (simp only [List.cons.injEq, and_true] at hx; obtain ⟨rfl, rfl⟩ := hx) | cases e
  cases e
  rw [h1.int, h2.int]
  exact ⟨_, _, rfl, k _ _ keep_refl (prep (rep_int _))⟩
theorem o_max2 : OpC2 .rep G (fun xs H Q => ∃ i j, xs = [.int i, .int j] ∧ Q (.int (if j > i then j else i)) H) .max2 := by
  intro Z ρ O m H d1 d2 d v1 v2 Q g h1 h2 e k
  replace e : app_max2 [d1, d2] = some d := e
  unfold app_max2 at e
  split at e <;> rename_i hx <;> first | (simp only [List.cons.injEq, and_true] at hx; obtain ⟨rfl, rfl⟩ := hx) | cases e
  cases e
  rw [h1.int, h2.int]
  exact ⟨_, _, rfl, k _ _ keep_refl (prep (rep_int _))⟩
theorem minI_ok : ∀ {is : List Int} {x : Int}, minI is = some x → x ∈ is ∧ ∀ y ∈ is, x ≤ y
  | [], _, h => by cases h
  | [a], x, h => by
    have e : a = x := Option.some.inj h
    subst e
    exact ⟨List.mem_singleton.mpr rfl, fun y hy => by rw [List.mem_singleton] at hy; omega⟩
  | a :: b :: r, x, h => by
    have h' : (minI (b :: r)).map (fun m => if m < a then m else a) = some x := h
    obtain ⟨y, h1, h2⟩ := Option.map_eq_some_iff.mp h'
    obtain ⟨i1, i2⟩ := minI_ok h1
    subst h2
    split
    · rename_i hlt
      refine ⟨List.mem_cons_of_mem _ i1, fun z hz => ?_⟩
      rcases List.mem_cons.mp hz with rfl | hz
      · omega
      · exact i2 z hz
    · rename_i hlt
      refine ⟨List.mem_cons_self, fun z hz => ?_⟩
      rcases List.mem_cons.mp hz with rfl | hz
      · omega
      · have := i2 z hz
        omega
theorem maxI_ok : ∀ {is : List Int} {x : Int}, maxI is = some x → x ∈ is ∧ ∀ y ∈ is, y ≤ x
  | [], _, h => by cases h
  | [a], x, h => by
    have e : a = x := Option.some.inj h
    subst e
    exact ⟨List.mem_singleton.mpr rfl, fun y hy => by rw [List.mem_singleton] at hy; omega⟩
  | a :: b :: r, x, h => by
    have h' : (maxI (b :: r)).map (fun m => if m > a then m else a) = some x := h
    obtain ⟨y, h1, h2⟩ := Option.map_eq_some_iff.mp h'
    obtain ⟨i1, i2⟩ := maxI_ok h1
    subst h2
    split
    · rename_i hlt
      refine ⟨List.mem_cons_of_mem _ i1, fun z hz => ?_⟩
      rcases List.mem_cons.mp hz with rfl | hz
      · omega
      · exact i2 z hz
    · rename_i hlt
      refine ⟨List.mem_cons_self, fun z hz => ?_⟩
      rcases List.mem_cons.mp hz with rfl | hz
      · omega
      · have := i2 z hz
        omega
theorem o_sum : OpC1 .rep G (L2.rSum G.K) .sum := by
  intro Z ρ O m H d1 d v1 Q g h1 e k
  replace e : app_sum [d1] = some d := e
  unfold app_sum at e
  split at e <;> rename_i hx <;> first | (simp only [List.cons.injEq, and_true] at hx; subst hx) | cases e
  obtain ⟨is, e2, e3⟩ := Option.map_eq_some_iff.mp e
  subst e3
  obtain ⟨a, vs, e1, q1, z1, r1⟩ := h1.lst
  obtain ⟨q2, _⟩ := r1.ints e2
  subst q2
  rw [e1]
  exact ⟨a, is, rfl, SqL.of q1, k _ _ keep_refl (prep (rep_int _))⟩
theorem o_all : OpC1 .rep G (L2.rAll G.K) .all := by
  intro Z ρ O m H d1 d v1 Q g h1 e k
  replace e : app_all [d1] = some d := e
  unfold app_all at e
  split at e <;> rename_i hx <;> first | (simp only [List.cons.injEq, and_true] at hx; subst hx) | cases e
  obtain ⟨is, e2, e3⟩ := Option.map_eq_some_iff.mp e
  subst e3
  obtain ⟨a, vs, e1, q1, z1, r1⟩ := h1.lst
  have q2 := r1.bools e2
  subst q2
  rw [e1]
  exact ⟨a, is, rfl, SqL.of q1, k _ _ keep_refl (prep (rep_bl _))⟩
theorem ints_ne {xs : List D} {is : List Int} {x : Int} (h : x ∈ is) : 0 < is.length := List.length_pos_of_mem h
theorem o_minL : OpC1 .rep G (L2.rMin G.K) .minL := by
  intro Z ρ O m H d1 d v1 Q g h1 e k
  replace e : app_minL [d1] = some d := e
  unfold app_minL at e
  split at e <;> rename_i hx <;> first | (simp only [List.cons.injEq, and_true] at hx; subst hx) | cases e
  obtain ⟨is, e2, e3⟩ := Option.bind_eq_some_iff.mp e
  obtain ⟨x, e4, e5⟩ := Option.map_eq_some_iff.mp e3
  subst e5
  obtain ⟨a, vs, e1, q1, z1, r1⟩ := h1.lst
  obtain ⟨q2, _⟩ := r1.ints e2
  subst q2
  obtain ⟨i1, i2⟩ := minI_ok e4
  rw [e1]
  refine ⟨a, is, rfl, SqL.of q1, List.length_pos_of_mem i1, fun y hy hm => ?_⟩
  have : y = x := by
    have a1 := i2 y hy
    have a2 := hm x i1
    omega
  subst this
  exact k _ _ keep_refl (prep (rep_int _))
theorem o_maxL : OpC1 .rep G (L2.rMax G.K) .maxL := by
  intro Z ρ O m H d1 d v1 Q g h1 e k
  replace e : app_maxL [d1] = some d := e
  unfold app_maxL at e
  split at e <;> rename_i hx <;> first | (simp only [List.cons.injEq, and_true] at hx; subst hx) | cases e
  obtain ⟨is, e2, e3⟩ := Option.bind_eq_some_iff.mp e
  obtain ⟨x, e4, e5⟩ := Option.map_eq_some_iff.mp e3
  subst e5
  obtain ⟨a, vs, e1, q1, z1, r1⟩ := h1.lst
  obtain ⟨q2, _⟩ := r1.ints e2
  subst q2
  obtain ⟨i1, i2⟩ := maxI_ok e4
  rw [e1]
  refine ⟨a, is, rfl, SqL.of q1, List.length_pos_of_mem i1, fun y hy hm => ?_⟩
  have : y = x := by
    have a1 := i2 y hy
    have a2 := hm x i1
    omega
  subst this
  exact k _ _ keep_refl (prep (rep_int _))
def rListA (K : PySem.W.Frag) : RL := fun xs H Q => ∃ p ys, xs = [.ref p] ∧ (SqL K H p ys ∨ SqT K H p ys) ∧ ∀ l, H l = none → Q (.ref l) (upd H l (.lst ys))
theorem o_list : OpC1 .fre G (rListA G.K) .list := by
  intro Z ρ O m H d1 d v1 Q g h1 e k
  replace e : app_list [d1] = some d := e
  unfold app_list at e
  split at e <;> rename_i hx <;> first | (simp only [List.cons.injEq, and_true] at hx; subst hx) | cases e
  · cases e
    obtain ⟨a, vs, e1, q1, z1, r1⟩ := h1.lst
    rw [e1]
    exact ⟨a, vs, rfl, .inl (SqL.of q1), fun l hl => k _ _ (upd_k hl) (new_lst g hl z1 r1)⟩
  · cases e
    obtain ⟨a, vs, e1, q1, z1, r1⟩ := h1.tup
    rw [e1]
    exact ⟨a, vs, rfl, .inr q1.sq, fun l hl => k _ _ (upd_k hl) (new_lst g hl z1 r1)⟩
def rTupleA (K : PySem.W.Frag) : RL := fun xs H Q => ∃ p ys, xs = [.ref p] ∧ ((SqL K H p ys ∧ ∀ l, H l = none → Q (.ref l) (upd H l (.tup ys))) ∨ (SqT K H p ys ∧ Q (.ref p) H))
theorem o_tuple : OpC1 .rep G (rTupleA G.K) .tuple := by
  intro Z ρ O m H d1 d v1 Q g h1 e k
  replace e : app_tuple [d1] = some d := e
  unfold app_tuple at e
  split at e <;> rename_i hx <;> first | (simp only [List.cons.injEq, and_true] at hx; subst hx) | cases e
  · cases e
    obtain ⟨a, vs, e1, q1, z1, r1⟩ := h1.lst
    rw [e1]
    exact ⟨a, vs, rfl, .inl ⟨SqL.of q1, fun l hl => k _ _ (upd_k hl) (prep (new_tup g hl z1 r1))⟩⟩
  · cases e
    obtain ⟨a, vs, e1, q1, z1, r1⟩ := h1.tup
    rw [e1]
    refine ⟨a, vs, rfl, .inr ⟨q1.sq, k _ _ keep_refl (prep ?_)⟩⟩
    rw [Rep]
    exact ⟨a, vs, rfl, q1, z1, r1⟩
theorem insertI_perm (x : Int) : ∀ l : List Int, (insertI x l).Perm (x :: l)
  | [] => List.Perm.refl _
  | y :: r => by
    unfold insertI
    split
    · exact List.Perm.refl _
    · exact (List.Perm.cons y (insertI_perm x r)).trans (List.Perm.swap x y r)
theorem sortI_perm : ∀ l : List Int, (sortI l).Perm l
  | [] => List.Perm.refl _
  | x :: r => (insertI_perm x (sortI r)).trans (List.Perm.cons x (sortI_perm r))
theorem insertI_srt (x : Int) : ∀ l : List Int, l.Pairwise (· ≤ ·) → (insertI x l).Pairwise (· ≤ ·)
  | [], _ => List.pairwise_singleton _ _
  | y :: r, h => by
    unfold insertI
    rw [List.pairwise_cons] at h
    split
    · rename_i hle
      refine List.Pairwise.cons (fun z hz => ?_) (List.Pairwise.cons h.1 h.2)
      rcases List.mem_cons.mp hz with rfl | hz
      · exact hle
      · exact Int.le_trans hle (h.1 z hz)
    · rename_i hle
      refine List.Pairwise.cons (fun z hz => ?_) (insertI_srt x r h.2)
      rcases List.mem_cons.mp ((insertI_perm x r).mem_iff.mp hz) with rfl | hz
      · omega
      · exact h.1 z hz
theorem sortI_srt : ∀ l : List Int, (sortI l).Pairwise (· ≤ ·)
  | [] => List.Pairwise.nil
  | x :: r => insertI_srt x _ (sortI_srt r)
theorem srt_uniq : ∀ {l k : List Int}, l.Perm k → l.Pairwise (· ≤ ·) → k.Pairwise (· ≤ ·) → l = k
  | [], k, h, _, _ => (List.nil_perm.mp h).symm
  | x :: l, [], h, _, _ => absurd h.length_eq (by simp)
  | x :: l, y :: k, h, h1, h2 => by
    rw [List.pairwise_cons] at h1 h2
    have e : x = y := by
      have a1 : x ∈ y :: k := h.mem_iff.mp List.mem_cons_self
      have a2 : y ∈ x :: l := h.mem_iff.mpr List.mem_cons_self
      rcases List.mem_cons.mp a1 with q | q
      · exact q
      · rcases List.mem_cons.mp a2 with q2 | q2
        · exact q2.symm
        · have b1 := h2.1 x q
          have b2 := h1.1 y q2
          omega
    subst e
    rw [srt_uniq ((List.perm_cons x).mp h) h1.2 h2.2]
theorem reps_ints {W : Addr → Prop} : ∀ is : List Int, Reps G H W ρ (is.map D.int) (is.map V.int)
  | [] => Reps.nil
  | i :: is => Reps.cons (rep_int i) (reps_ints is)
theorem o_sorted : OpC1 .fre G (L2.rSorted G.K) .sorted := by
  intro Z ρ O m H d1 d v1 Q g h1 e k
  replace e : app_sorted [d1] = some d := e
  unfold app_sorted at e
  split at e <;> rename_i hx <;> first | (simp only [List.cons.injEq, and_true] at hx; subst hx) | cases e
  obtain ⟨is, e2, e3⟩ := Option.bind_eq_some_iff.mp e
  split at e3 <;> cases e3
  rename_i hlt
  obtain ⟨a, vs, e1, q1, z1, r1⟩ := h1.lst
  obtain ⟨q2, _⟩ := r1.ints e2
  subst q2
  rw [e1]
  refine ⟨a, is, rfl, SqL.of q1, hlt, fun ns' p hp hs hn => ?_⟩
  have ee : ns' = sortI is := srt_uniq (hp.trans (sortI_perm is).symm) hs (sortI_srt is)
  subst ee
  refine k _ _ (upd_k hn) (new_lst g hn ?_ (reps_ints _))
  rw [List.length_map, (sortI_perm is).length_eq]
  exact Nat.le_trans (Nat.le_of_lt hlt) (by decide)
def tyName : Ty → String
  | .int => "int" | .bool => "bool" | .str => "str" | .tuple => "tuple" | .list => "list"
theorem rep_ty {W : Addr → Prop} {d : D} {v : V} {t : Ty} {b : Bool} (h : RepB G H W ρ d v) (e : isTy t d = some b) : ∃ n, L2.TyX G.K H v (.type n) ∧
    L2.kitB n (tyName t) = some b := by
  cases d with
  | non =>
    have q := h.rep fun ds z => nomatch z
    rw [Rep] at q
    subst q
    refine ⟨_, .base .non, ?_⟩
    cases t <;> cases e <;> decide +kernel
  | bl x =>
    rw [h.bl]
    refine ⟨_, .base (.bl x), ?_⟩
    cases t <;> cases e <;> decide +kernel
  | int i =>
    rw [h.int]
    refine ⟨_, .base (.int i), ?_⟩
    cases t <;> cases e <;> decide +kernel
  | str s =>
    rw [h.str.1]
    refine ⟨_, .base (.str _), ?_⟩
    cases t <;> cases e <;> decide +kernel
  | tup ds =>
    obtain ⟨a, vs, e1, f, _, _⟩ := h.tup
    subst e1
    rcases f with ⟨f | ⟨o, f⟩, _⟩ | ⟨o, its, n, h1, h2, _⟩
    · refine ⟨_, .base (.tup f), ?_⟩
      cases t <;> cases e <;> decide +kernel
    · refine ⟨_, .fTuple f, ?_⟩
      cases t <;> cases e <;> decide +kernel
    · refine ⟨_, .kTuple h1 h2, ?_⟩
      cases t <;> cases e <;> decide +kernel
  | lst ds =>
    obtain ⟨a, vs, e1, f, _, _⟩ := h.lst
    subst e1
    refine ⟨_, .base (.lst f), ?_⟩
    cases t <;> cases e <;> decide +kernel
  | fn n => cases t <;> cases e
  | mref n => cases t <;> cases e
  | scr n => cases t <;> cases e
def rIsTy (K : PySem.W.Frag) (t : Ty) : V → Hp → VK → Prop := fun x H Q => L2.rIsi K [x, .ty (tyName t)] H Q
theorem o_isinst (t : Ty) : Op1 .rep G (rIsTy G.K t) (.isinst t) := by
  intro Z ρ O m H d1 d v1 Q g h1 e k
  replace e : (isTy t d1).map D.bl = some d := e
  obtain ⟨b, e1, e2⟩ := Option.map_eq_some_iff.mp e
  subst e2
  obtain ⟨n, h2, h3⟩ := rep_ty h1 e1
  refine ⟨v1, .ty (tyName t), .type n, .type (tyName t), b, rfl, .ty _, h2, L2.kit_ty ?_, k _ _ keep_refl (prep (rep_bl _))⟩
  exact h3
theorem o_bool : OpC1 .rep G (fun xs H Q => (∃ i, xs = [.int i] ∧ Q (.bl (i != 0)) H) ∨ ∃ k, xs = [.bl k] ∧ Q (.bl k) H) .bool := by
  intro Z ρ O m H d1 d v1 Q g h1 e k
  replace e : app_bool [d1] = some d := e
  unfold app_bool at e
  split at e <;> rename_i hx <;> first | (simp only [List.cons.injEq, and_true] at hx; subst hx) | cases e
  cases e
  rw [h1.bl]
  exact .inr ⟨_, rfl, k _ _ keep_refl (prep (rep_bl _))⟩
theorem strI_ok : ∀ n : Nat, n < 100 → Str.ofString (toString (n : Int)) = ⟨(strI (n : Int)).toArray⟩ ∧ (strI (n : Int)).length ≤ 2 ∧ ∀ c ∈ strI (n : Int), c < 128 := by decide +kernel
end
end Rf

/-! RSnd: an expression's reading does what the pure expression says: the statement, and the rule for each form. -/
namespace Rf
open PySem (Str Addr Value Pos Expr Stmt Scope Program World Heap Shared)
open L2 (V Hp HO SqL SqT Rd upd upd_same upd_ne VK XK TE TT TA TS TG TI WX Cx Ends OpR R2 rI rI0 PE PT PW PA PS PSs PG PI)

/-- the tables of a text: names, which defs it has, what a call does -/
structure Cfg where
  nm : Names
  ids : Nat → Bool
  cf : CF
def ErrIs (G : Gl) (c : Nat) (cls : Value) (dx : Option Addr) : Prop := dx = none ∧ ∃ x a, G.nm.er c = some x ∧ G.mg x = some (.ref a) ∧ cls = .ref a

/-- what must hold behind an expression -/
def KE (G : Gl) (Wx : WX) (k : Kd) (Z : Addr → Prop) (O : Nat → Option Addr) (e : En) (σ : L2.St) (ρ : List Addr) (H : Hp) (Q : VK) : R D → Prop
  | .ok d m' => ∀ v ρ' H1 H', Stp G Z O e σ ρ H ρ' m' H1 → (∀ a u, H1 a = some u → H' a = some u) → PostV k G H1 H' (Wr Z ρ' O) ρ' d v → Q v H'
  | .exc c m' => ∀ cls dx ρ' H', Stp G Z O e σ ρ H ρ' m' H' → ErrIs G c cls dx → Wx cls dx σ H'
  | .bad => False
def Snd (C : Cfg) (G : Gl) (Wx : WX) (k : Kd) (t : TE) (A : E) : Prop := ∀ (Z : Addr → Prop) (ρ : List Addr) (O : Nat → Option Addr) (e : En) (m : M) (σ : L2.St) (H : Hp) (Q : VK),
  SR G Z ρ O e m σ H → KE G Wx k Z O e σ ρ H Q (A.ev C.cf e m) → t σ H Q
/-- a test -/
def KT (G : Gl) (Wx : WX) (Z : Addr → Prop) (O : Nat → Option Addr) (e : En) (σ : L2.St) (ρ : List Addr) (H : Hp) (Q : Bool → Hp → Prop) : R D → Prop
  | .ok d m' => match d with
    | .bl b => ∀ ρ' H', Stp G Z O e σ ρ H ρ' m' H' → Q b H'
    | _ => False
  | .exc c m' => ∀ cls dx ρ' H', Stp G Z O e σ ρ H ρ' m' H' → ErrIs G c cls dx → Wx cls dx σ H'
  | .bad => False
def SndT (C : Cfg) (G : Gl) (Wx : WX) (t : TT) (A : E) : Prop := ∀ (Z : Addr → Prop) (ρ : List Addr) (O : Nat → Option Addr) (e : En) (m : M) (σ : L2.St) (H : Hp) (Q : Bool → Hp → Prop),
  SR G Z ρ O e m σ H → KT G Wx Z O e σ ρ H Q (A.ev C.cf e m) → t σ H Q
/-- an argument list -/
def KA (G : Gl) (Wx : WX) (Z : Addr → Prop) (O : Nat → Option Addr) (e : En) (σ : L2.St) (ρ : List Addr) (H : Hp) (Q : List V → Hp → Prop) : R (List D) → Prop
  | .ok ds m' => ∀ vs ρ' H', Stp G Z O e σ ρ H ρ' m' H' → Reps G H' (Wr Z ρ' O) ρ' ds vs → Q vs H'
  | .exc c m' => ∀ cls dx ρ' H', Stp G Z O e σ ρ H ρ' m' H' → ErrIs G c cls dx → Wx cls dx σ H'
  | .bad => False
def SndA (C : Cfg) (G : Gl) (Wx : WX) (t : TA) (A : Es) : Prop := ∀ (Z : Addr → Prop) (ρ : List Addr) (O : Nat → Option Addr) (e : En) (m : M) (σ : L2.St) (H : Hp) (Q : List V → Hp → Prop),
  SR G Z ρ O e m σ H → KA G Wx Z O e σ ρ H Q (A.ev C.cf e m) → t σ H Q

section
variable {C : Cfg} {G : Gl} {Wx : WX} {k : Kd} {t ta tb tc : TE} {A B A' : E} {Z : Addr → Prop} {ρ ρ' : List Addr} {O : Nat → Option Addr} {e : En} {m m' : M} {σ : L2.St} {H H' : Hp} {Q : VK}
theorem SR.gd (s : SR G Z ρ O e m σ H) : Gd G Z ρ O m H := ⟨s.mr, s.wt⟩
theorem PostV.bor {H0 : Hp} {W : Addr → Prop} {d : D} {v : V} (h : PostV k G H0 H W ρ d v) : PostV .bor G H0 H W ρ d v := by
  cases k with
  | rep => exact .inl h
  | bor => exact h
  | fre => exact .inl h.1
theorem PostV.repB {H0 : Hp} {W : Addr → Prop} {d : D} {v : V} (h : PostV k G H0 H W ρ d v) : RepB G H W ρ d v := h.bor
theorem Snd.bor (h : Snd C G Wx k t A) : Snd C G Wx .bor t A := fun Z ρ O e m σ H Q s q => h Z ρ O e m σ H Q s (by
  cases r : A.ev C.cf e m with
  | ok d m' => rw [r] at q; exact fun v ρ' H1 H' st hk p => q v ρ' H1 H' st hk p.bor
  | exc c m' => rw [r] at q; exact q
  | bad => rw [r] at q; exact q)
theorem Snd.of_fre (h : Snd C G Wx .fre t A) : Snd C G Wx .rep t A := fun Z ρ O e m σ H Q s q => h Z ρ O e m σ H Q s (by
  cases r : A.ev C.cf e m with
  | ok d m' => rw [r] at q; exact fun v ρ' H1 H' st hk p => q v ρ' H1 H' st hk p.1
  | exc c m' => rw [r] at q; exact q
  | bad => rw [r] at q; exact q)
theorem Stp.exc {m2 : M} {c : Nat} (s : SR G Z ρ O e m σ H) (st : Stp G Z O e σ ρ H ρ' m' H') (q : ∀ cls dx ρ' H', Stp G Z O e σ ρ H ρ' m2 H' → ErrIs G c cls dx → Wx cls dx σ H') :
    ∀ cls dx ρ2 H2, Stp G Z O e σ ρ' H' ρ2 m2 H2 → ErrIs G c cls dx → Wx cls dx σ H2 := fun cls dx ρ2 H2 st2 er => q cls dx ρ2 H2 (st.trans s st2) er

/-! ### names, constants -/
theorem snd_var {i : Nat} : Snd C G Wx .rep (L2.tVar i) (.var i) := by
  intro Z ρ O e m σ H Q s q
  rw [E.ev] at q
  unfold En.val at q
  split at q
  · rename_i d hd
    split at hd
    · rename_i d' he
      cases hd
      obtain ⟨x, e1, h2⟩ := s.sl i _ he
      obtain ⟨_, v, e2, r⟩ := h2
      subst e2
      exact ⟨v, e1, q v ρ H H (.refl s) keep_refl r⟩
    · cases hd
  · exact q.elim
theorem snd_bor {i : Nat} : Snd C G Wx .bor (L2.tVar i) (.bor i) := by
  intro Z ρ O e m σ H Q s q
  rw [E.ev] at q
  unfold En.bor at q
  split at q
  · rename_i d hd
    split at hd
    · rename_i d' he
      cases hd
      obtain ⟨x, e1, h2⟩ := s.sl i _ he
      obtain ⟨_, v, e2, r⟩ := h2
      subst e2
      exact ⟨v, e1, q v ρ H H (.refl s) keep_refl (.inl r)⟩
    · rename_i d' he
      cases hd
      obtain ⟨x, e1, h2⟩ := s.sl i _ he
      obtain ⟨a, vs, ho, e2, h3, z, r⟩ := h2
      subst e2
      exact ⟨_, e1, q _ ρ H H (.refl s) keep_refl (.inr ⟨a, vs, d', rfl, rfl, h3, (s.oz i a ho).2, z, r⟩)⟩
    · rename_i d' he
      cases hd
      obtain ⟨x, e1, h2⟩ := s.sl i _ he
      obtain ⟨a, vs, ho, e2, h3, z, r⟩ := h2
      subst e2
      exact ⟨_, e1, q _ ρ H H (.refl s) keep_refl (.inr ⟨a, vs, d', rfl, rfl, h3, (s.oz i a ho).2, z, r⟩)⟩
    · cases hd
  · exact q.elim
theorem snd_con {d : D} {v : V} (h : ∀ H W ρ, Rep G H W ρ d v) : Snd C G Wx .rep (L2.tC v) (.con d) := by
  intro Z ρ O e m σ H Q s q
  rw [E.ev] at q
  exact q v ρ H H (.refl s) keep_refl (h _ _ _)

/-! ### operators -/
def appR (o : Op) (ds : List D) (m : M) : R D := match o.app ds m with
  | some d => .ok d m
  | none => .bad
theorem ev_op1 (cf : CF) (o : Op) (A : E) (e : En) (m : M) : (E.op o (.cons A .nil)).ev cf e m = (A.ev cf e m).bind fun d m' => appR o [d] m' := by
  simp only [E.ev, Es.ev, R.bind]
  cases A.ev cf e m <;> rfl
theorem ev_op2 (cf : CF) (o : Op) (A B : E) (e : En) (m : M) : (E.op o (.cons A (.cons B .nil))).ev cf e m = (A.ev cf e m).bind fun d m' => (B.ev cf e m').bind fun d2 m2 => appR o [d, d2] m2 := by
  simp only [E.ev, Es.ev, R.bind]
  cases A.ev cf e m with
  | ok d m' => cases h : B.ev cf e m' <;> simp only [h] <;> rfl
  | exc c m' => rfl
  | bad => rfl
theorem ev_op3 (cf : CF) (o : Op) (A B A' : E) (e : En) (m : M) : (E.op o (.cons A (.cons B (.cons A' .nil)))).ev cf e m = (A.ev cf e m).bind fun d m' => (B.ev cf e m').bind fun d2 m2 => (A'.ev cf e m2).bind fun d3 m3 => appR o [d, d2, d3] m3 := by
  simp only [E.ev, Es.ev, R.bind]
  cases A.ev cf e m with
  | ok d m' =>
    cases h : B.ev cf e m' with
    | ok d2 m2 => cases h2 : A'.ev cf e m2 <;> simp only [h, h2] <;> rfl
    | exc c m2 => simp only [h]
    | bad => simp only [h]
  | exc c m' => rfl
  | bad => rfl
theorem ev_opN (cf : CF) (o : Op) (A : Es) (e : En) (m : M) : (E.op o A).ev cf e m = (A.ev cf e m).bind fun ds m' => appR o ds m' := by
  rw [E.ev]
  rfl
/-- the operator itself, behind its operands -/
theorem appR_end {o : Op} {ds : List D} (s : SR G Z ρ O e m σ H) (st : Stp G Z O e σ ρ H ρ' m' H') (q : KE G Wx k Z O e σ ρ H Q (appR o ds m')) :
    ∃ d, o.app ds m' = some d ∧ ∀ v H2, (∀ a u, H' a = some u → H2 a = some u) → PostV k G H' H2 (Wr Z ρ' O) ρ' d v → Q v H2 := by
  unfold appR at q
  cases ro : o.app ds m' with
  | none => rw [ro] at q; exact q.elim
  | some d =>
    rw [ro] at q
    exact ⟨d, rfl, fun v H2 hk pv => q v ρ' H' H2 st hk pv⟩
theorem KE.exc {c : Nat} {m2 : M} (s : SR G Z ρ O e m σ H) (st : Stp G Z O e σ ρ H ρ' m' H') {Q' : VK} {k' : Kd} (q : KE G Wx k Z O e σ ρ H Q (.exc c m2)) : KE G Wx k' Z O e σ ρ' H' Q' (.exc c m2) :=
  fun cls dx ρ2 H2 st2 er => q cls dx ρ2 H2 (st.trans s st2) er
theorem KE.ex0 {c : Nat} {m2 : M} {Q' : VK} {k' : Kd} (q : KE G Wx k Z O e σ ρ H Q (.exc c m2)) : KE G Wx k' Z O e σ ρ H Q' (.exc c m2) := q
theorem snd_op1 {r : V → Hp → VK → Prop} {o : Op} (ho : Op1 k G r o) (ha : Snd C G Wx .bor ta A) : Snd C G Wx k (fun σ H Q => ta σ H fun x H1 => r x H1 Q) (.op o (.cons A .nil)) := by
  intro Z ρ O e m σ H Q s q
  rw [ev_op1] at q
  refine ha Z ρ O e m σ H _ s ?_
  cases ra : A.ev C.cf e m with
  | bad => rw [ra] at q; exact q
  | exc c m' => rw [ra] at q; exact q
  | ok d m' =>
    rw [ra] at q
    intro v ρ' H1' H' st1' hk1' p
    have st := st1'.trans s (.keep st1'.sr hk1')
    obtain ⟨d2, ro, fin⟩ := appR_end s st q
    exact ho Z ρ' O m' H' d d2 v Q st.sr.gd p ro fin
theorem snd_op2 {r : R2} {o : Op} (ho : Op2 k G r o) (ha : Snd C G Wx .bor ta A) (hb : Snd C G Wx .bor tb B) : Snd C G Wx k (L2.tOp r ta tb) (.op o (.cons A (.cons B .nil))) := by
  intro Z ρ O e m σ H Q s q
  rw [ev_op2] at q
  refine ha Z ρ O e m σ H _ s ?_
  cases ra : A.ev C.cf e m with
  | bad => rw [ra] at q; exact q
  | exc c m' => rw [ra] at q; exact q
  | ok d m' =>
    rw [ra] at q
    intro v ρ' H1' H' st1' hk1' p
    have st := st1'.trans s (.keep st1'.sr hk1')
    replace q : KE G Wx k Z O e σ ρ H Q ((B.ev C.cf e m').bind fun d2 m2 => appR o [d, d2] m2) := q
    refine hb Z ρ' O e m' σ H' _ st.sr ?_
    cases rb : B.ev C.cf e m' with
    | bad => rw [rb] at q; exact q
    | exc c m2 => rw [rb] at q; exact KE.exc s st q
    | ok d2 m2 =>
      rw [rb] at q
      intro v2 ρ2 H1'' H2 st1'' hk1'' p2
      have st2 := st1''.trans st.sr (.keep st1''.sr hk1'')
      have st3 := st.trans s st2
      obtain ⟨d3, ro, fin⟩ := appR_end s st3 q
      exact ho Z ρ2 O m2 H2 d d2 d3 v v2 Q st2.sr.gd (st2.repB p) p2 ro fin
/-- a built-in's call, one argument, two -/
theorem snd_c1 {r : RL} {o : Op} (ho : OpC1 k G r o) (ha : Snd C G Wx .bor ta A) : Snd C G Wx k (L2.tCB r (L2.tCons ta L2.tNil)) (.op o (.cons A .nil)) :=
  snd_op1 (r := fun x H Q => r [x] H Q) ho ha
theorem snd_c2 {r : RL} {o : Op} (ho : OpC2 k G r o) (ha : Snd C G Wx .bor ta A) (hb : Snd C G Wx .bor tb B) : Snd C G Wx k (L2.tCB r (L2.tCons ta (L2.tCons tb L2.tNil))) (.op o (.cons A (.cons B .nil))) :=
  snd_op2 (r := fun x y H Q => r [x, y] H Q) ho ha hb
/-- slices -/
theorem snd_slF {tl : L2.TO} (ha : Snd C G Wx .bor ta A) (hb : Snd C G Wx .bor tb B) : Snd C G Wx .fre (L2.tSl (rSl G.K) ta (L2.tPart tb) L2.tNoPart) (.op .slF (.cons A (.cons B .nil))) := by
  intro Z ρ O e m σ H Q s q
  refine snd_op2 (k := .fre) (r := fun x y H Q => ∃ i, y = .int i ∧ rSl G.K x (some i) none H Q) (fun Z ρ O m H d1 d2 d v1 v2 Q g h1 h2 e k => ?_) ha hb Z ρ O e m σ H Q s q
  replace e : app_slF [d1, d2] = some d := e
  cases d2 with
  | int i =>
    rw [h2.int]
    exact ⟨i, rfl, o_slF i Z ρ O m H d1 d v1 Q g h1 e k⟩
  | _ => cases d1 <;> cases e
theorem snd_slT (ha : Snd C G Wx .bor ta A) (hb : Snd C G Wx .bor tb B) : Snd C G Wx .fre (L2.tSl (rSl G.K) ta L2.tNoPart (L2.tPart tb)) (.op .slT (.cons A (.cons B .nil))) := by
  intro Z ρ O e m σ H Q s q
  refine snd_op2 (k := .fre) (r := fun x y H Q => ∃ i, y = .int i ∧ rSl G.K x none (some i) H Q) (fun Z ρ O m H d1 d2 d v1 v2 Q g h1 h2 e k => ?_) ha hb Z ρ O e m σ H Q s q
  replace e : app_slT [d1, d2] = some d := e
  cases d2 with
  | int i =>
    rw [h2.int]
    exact ⟨i, rfl, o_slT i Z ρ O m H d1 d v1 Q g h1 e k⟩
  | _ => cases d1 <;> cases e
theorem snd_slc (ha : Snd C G Wx .bor ta A) (hb : Snd C G Wx .bor tb B) (hc : Snd C G Wx .bor tc A') : Snd C G Wx .fre (L2.tSl (rSl G.K) ta (L2.tPart tb) (L2.tPart tc)) (.slc A B A') := by
  intro Z ρ O e m σ H Q s q
  rw [E.ev] at q
  refine ha Z ρ O e m σ H _ s ?_
  cases ra : A.ev C.cf e m with
  | bad => rw [ra] at q; exact q
  | exc c m' => rw [ra] at q; exact q
  | ok d m' =>
    rw [ra] at q
    intro v ρ' H1' H' st1' hk1' p
    have st := st1'.trans s (.keep st1'.sr hk1')
    refine hb Z ρ' O e m' σ H' _ st.sr ?_
    cases rb : B.ev C.cf e m' with
    | bad => simp only [R.bind, rb] at q; exact q
    | exc c m2 => simp only [R.bind, rb] at q; exact KE.exc s st q
    | ok d2 m2 =>
      intro v2 ρ2 H1'' H2 st1'' hk1'' p2
      have st2 := st1''.trans st.sr (.keep st1''.sr hk1'')
      have st3 := st.trans s st2
      cases d2 with
      | int i =>
        simp only [R.bind, rb] at q
        rw [p2.repB.int]
        refine ⟨i, rfl, ?_⟩
        refine hc Z ρ2 O e m2 σ H2 _ st2.sr ?_
        cases rc : A'.ev C.cf e m2 with
        | bad => rw [rc] at q; exact q
        | exc c m3 => rw [rc] at q; exact KE.exc s st3 q
        | ok d3 m3 =>
          rw [rc] at q
          intro v3 ρ3 H1''' H3 st1''' hk1''' p3
          have st4 := st1'''.trans st2.sr (.keep st1'''.sr hk1''')
          have st5 := st3.trans s st4
          cases ro : app_slFT [d, .int i, d3] with
          | none => simp only [ro] at q; exact q.elim
          | some d4 =>
            simp only [ro] at q
            cases d3 with
            | int j =>
              rw [p3.repB.int]
              exact ⟨j, rfl, o_slFT i j Z ρ3 O m3 H3 d d4 v Q st4.sr.gd (st4.repB (st2.repB p)) ro fun v4 H4 hk pv => q v4 ρ3 H3 H4 st5 hk pv⟩
            | _ => cases d <;> cases ro
      | _ => simp only [R.bind, rb] at q; exact q.elim
end
end Rf

/-! RSnd2: the rules for tests, argument lists, displays, calls. -/
namespace Rf
open PySem (Str Addr Value Pos Expr Stmt Scope Program World Heap Shared)
open L2 (V Hp HO SqL SqT Rd upd upd_same upd_ne VK XK TE TT TA TS TG TI WX Cx Ends OpR R2 rI rI0 PE PT PW PA PS PSs PG PI)
section
variable {C : Cfg} {G : Gl} {Wx : WX} {k : Kd} {t ta tb tc : TE} {t1 t2 : TT} {A B A' : E} {As : Es} {tas : TA} {Z : Addr → Prop} {ρ ρ' : List Addr} {O : Nat → Option Addr} {e : En} {m m' : M} {σ : L2.St} {H H' : Hp} {Q : VK}
theorem KT.exc {c : Nat} {m2 : M} {Q' : Bool → Hp → Prop} {Q2 : VK} (s : SR G Z ρ O e m σ H) (st : Stp G Z O e σ ρ H ρ' m' H') (q : KT G Wx Z O e σ ρ H Q' (.exc c m2)) : KE G Wx k Z O e σ ρ' H' Q2 (.exc c m2) :=
  fun cls dx ρ2 H2 st2 er => q cls dx ρ2 H2 (st.trans s st2) er
/-! ### values that are bools -/
theorem snd_and (ha : Snd C G Wx k ta A) (hb : Snd C G Wx .rep tb B) : Snd C G Wx .rep (L2.tAndV ta tb) (.and A B) := by
  intro Z ρ O e m σ H Q s q
  rw [E.ev] at q
  refine ha.bor Z ρ O e m σ H _ s ?_
  cases ra : A.ev C.cf e m with
  | bad => rw [ra] at q; exact q
  | exc c m' => rw [ra] at q; exact q
  | ok d m' =>
    rw [ra] at q
    intro v ρ' H1' H' st1' hk1' p
    have st := st1'.trans s (.keep st1'.sr hk1')
    cases d with
    | bl b =>
      have ev : v = .bl b := p.repB.bl
      refine ⟨b, ev, ?_⟩
      cases b with
      | false => exact q (.bl false) ρ' H' H' st keep_refl (prep (rep_bl _))
      | true =>
        refine hb Z ρ' O e m' σ H' _ st.sr ?_
        replace q : KE G Wx .rep Z O e σ ρ H Q (B.ev C.cf e m') := q
        cases rb : B.ev C.cf e m' with
        | bad => rw [rb] at q; exact q
        | exc c m2 => rw [rb] at q; exact KE.exc s st q
        | ok d2 m2 => rw [rb] at q; exact fun v2 ρ2 H1 H2 st2 hk p2 => q v2 ρ2 H1 H2 (st.trans s st2) hk p2
    | _ => exact q.elim
theorem snd_or (ha : Snd C G Wx k ta A) (hb : Snd C G Wx .rep tb B) : Snd C G Wx .rep (L2.tOrV ta tb) (.or A B) := by
  intro Z ρ O e m σ H Q s q
  rw [E.ev] at q
  refine ha.bor Z ρ O e m σ H _ s ?_
  cases ra : A.ev C.cf e m with
  | bad => rw [ra] at q; exact q
  | exc c m' => rw [ra] at q; exact q
  | ok d m' =>
    rw [ra] at q
    intro v ρ' H1' H' st1' hk1' p
    have st := st1'.trans s (.keep st1'.sr hk1')
    cases d with
    | bl b =>
      have ev : v = .bl b := p.repB.bl
      refine ⟨b, ev, ?_⟩
      cases b with
      | true => exact q (.bl true) ρ' H' H' st keep_refl (prep (rep_bl _))
      | false =>
        refine hb Z ρ' O e m' σ H' _ st.sr ?_
        replace q : KE G Wx .rep Z O e σ ρ H Q (B.ev C.cf e m') := q
        cases rb : B.ev C.cf e m' with
        | bad => rw [rb] at q; exact q
        | exc c m2 => rw [rb] at q; exact KE.exc s st q
        | ok d2 m2 => rw [rb] at q; exact fun v2 ρ2 H1 H2 st2 hk p2 => q v2 ρ2 H1 H2 (st.trans s st2) hk p2
    | _ => exact q.elim
theorem snd_not (ha : Snd C G Wx k ta A) : Snd C G Wx .rep (L2.tNotV ta) (.op .lnot (.cons A .nil)) := by
  intro Z ρ O e m σ H Q s q
  rw [ev_op1] at q
  refine ha.bor Z ρ O e m σ H _ s ?_
  cases ra : A.ev C.cf e m with
  | bad => rw [ra] at q; exact q
  | exc c m' => rw [ra] at q; exact q
  | ok d m' =>
    rw [ra] at q
    intro v ρ' H1' H' st1' hk1' p
    have st := st1'.trans s (.keep st1'.sr hk1')
    obtain ⟨d2, ro, fin⟩ := appR_end s st q
    replace ro : app_lnot [d] = some d2 := ro
    cases d with
    | bl b =>
      cases ro
      exact ⟨b, p.repB.bl, fin _ H' keep_refl (prep (rep_bl _))⟩
    | _ => cases ro
/-- x if c else y -/
theorem snd_ite {tt : TT} (hc : SndT C G Wx tt A') (ha : Snd C G Wx k ta A) (hb : Snd C G Wx k tb B) : Snd C G Wx k (L2.tIf tt ta tb) (.ite A' A B) := by
  intro Z ρ O e m σ H Q s q
  rw [E.ev] at q
  refine hc Z ρ O e m σ H _ s ?_
  cases ra : A'.ev C.cf e m with
  | bad => rw [ra] at q; exact q
  | exc c m' => rw [ra] at q; exact q
  | ok d m' =>
    rw [ra] at q
    cases d with
    | bl b =>
      intro ρ' H' st
      cases b with
      | true =>
        replace q : KE G Wx k Z O e σ ρ H Q (A.ev C.cf e m') := q
        refine ha Z ρ' O e m' σ H' _ st.sr ?_
        cases rb : A.ev C.cf e m' with
        | bad => rw [rb] at q; exact q
        | exc c m2 => rw [rb] at q; exact KE.exc s st q
        | ok d2 m2 => rw [rb] at q; exact fun v2 ρ2 H1 H2 st2 hk p2 => q v2 ρ2 H1 H2 (st.trans s st2) hk p2
      | false =>
        replace q : KE G Wx k Z O e σ ρ H Q (B.ev C.cf e m') := q
        refine hb Z ρ' O e m' σ H' _ st.sr ?_
        cases rb : B.ev C.cf e m' with
        | bad => rw [rb] at q; exact q
        | exc c m2 => rw [rb] at q; exact KE.exc s st q
        | ok d2 m2 => rw [rb] at q; exact fun v2 ρ2 H1 H2 st2 hk p2 => q v2 ρ2 H1 H2 (st.trans s st2) hk p2
    | _ => exact q.elim
/-- a chained comparison -/
theorem snd_chain {r r' : R2} {o p : Op} (ho : Op2 .rep G r o) (hp : Op2 .rep G r' p) (ha : Snd C G Wx .bor ta A) (hb : Snd C G Wx .bor tb B) (hc : Snd C G Wx .bor tc A') : Snd C G Wx .rep (L2.tChain r r' ta tb tc) (.chain o p A B A') := by
  intro Z ρ O e m σ H Q s q
  rw [E.ev] at q
  refine ha Z ρ O e m σ H _ s ?_
  cases ra : A.ev C.cf e m with
  | bad => rw [ra] at q; exact q
  | exc c m' => rw [ra] at q; exact q
  | ok d m' =>
    rw [ra] at q
    intro v ρ' H1' H' st1' hk1' pv
    have st := st1'.trans s (.keep st1'.sr hk1')
    refine hb Z ρ' O e m' σ H' _ st.sr ?_
    cases rb : B.ev C.cf e m' with
    | bad => simp only [R.bind, rb] at q; exact q
    | exc c m2 => simp only [R.bind, rb] at q; exact KE.exc s st q
    | ok d2 m2 =>
      intro v2 ρ2 H1'' H2 st1'' hk1'' p2
      have st2 := st1''.trans st.sr (.keep st1''.sr hk1'')
      have st3 := st.trans s st2
      simp only [R.bind, rb] at q
      cases ro : o.app [d, d2] m2 with
      | none => simp only [ro] at q; exact q.elim
      | some d3 =>
        simp only [ro] at q
        refine ho Z ρ2 O m2 H2 d d2 d3 v v2 _ st2.sr.gd (st2.repB pv) p2 ro fun v3 H3 hk p3 => ?_
        have st4 : Stp G Z O e σ ρ H ρ2 m2 H3 := st3.trans s (.keep st2.sr hk)
        cases d3 with
        | bl b =>
          have ev3 : v3 = .bl b := p3.repB.bl
          refine ⟨b, ev3, ?_⟩
          cases b with
          | false =>
            exact q (.bl false) ρ2 H3 H3 st4 keep_refl (prep (rep_bl _))
          | true =>
            show tc σ H3 _
            refine hc Z ρ2 O e m2 σ H3 _ st4.sr ?_
            cases rc : A'.ev C.cf e m2 with
            | bad => simp only [if_true, rc] at q; exact q
            | exc c m3 => simp only [if_true, rc] at q; exact KE.exc s st4 q
            | ok d4 m3 =>
              intro v4 ρ4 H1''' H4 st1''' hk1''' p4
              have st5 := st1'''.trans st4.sr (.keep st1'''.sr hk1''')
              simp only [if_true, rc] at q
              have st6 := st4.trans s st5
              cases rp : p.app [d2, d4] m3 with
              | none => simp only [rp] at q; exact q.elim
              | some d5 =>
                simp only [rp] at q
                have stk : Stp G Z O e σ ρ2 H2 ρ2 m2 H3 := .keep st2.sr hk
                refine hp Z ρ4 O m3 H4 d2 d4 d5 v2 v4 Q st5.sr.gd (st5.repB (stk.repB p2.repB)) p4 rp fun v5 H5 hk5 p5 => ?_
                exact q v5 ρ4 H4 H5 st6 hk5 p5
        | _ => exact q.elim

/-! ### tests -/
theorem KT_of {Q' : Bool → Hp → Prop} {r : R D} (s : SR G Z ρ O e m σ H) (q : KT G Wx Z O e σ ρ H Q' r) : KE G Wx k Z O e σ ρ H (fun x H' => ∃ b, x = .bl b ∧ Q' b H') r := by
  cases r with
  | bad => exact q
  | exc c m => exact q
  | ok d m =>
    intro v ρ' H1' H' st1' hk1' p
    have st := st1'.trans s (.keep st1'.sr hk1')
    cases d with
    | bl b => exact ⟨b, p.repB.bl, q ρ' H' st⟩
    | _ => exact q.elim
theorem sndT_test (ha : Snd C G Wx k ta A) : SndT C G Wx (L2.tTest ta) A := fun Z ρ O e m σ H Q s q => ha Z ρ O e m σ H _ s (KT_of s q)
theorem sndT_val (ha : Snd C G Wx k ta A) : SndT C G Wx (L2.tB ta) A := fun Z ρ O e m σ H Q s q => ha Z ρ O e m σ H _ s (KT_of s q)
theorem KT.excT {c : Nat} {m2 : M} {Q' Q2 : Bool → Hp → Prop} (s : SR G Z ρ O e m σ H) (st : Stp G Z O e σ ρ H ρ' m' H') (q : KT G Wx Z O e σ ρ H Q' (.exc c m2)) : KT G Wx Z O e σ ρ' H' Q2 (.exc c m2) :=
  fun cls dx ρ2 H2 st2 er => q cls dx ρ2 H2 (st.trans s st2) er
theorem KT.on {Q' : Bool → Hp → Prop} {r : R D} (s : SR G Z ρ O e m σ H) (st : Stp G Z O e σ ρ H ρ' m' H') (q : KT G Wx Z O e σ ρ H Q' r) : KT G Wx Z O e σ ρ' H' Q' r := by
  cases r with
  | bad => exact q
  | exc c m => exact KT.excT s st q
  | ok d m =>
    cases d with
    | bl b => exact fun ρ2 H2 st2 => q ρ2 H2 (st.trans s st2)
    | _ => exact q
theorem sndT_and (ha : SndT C G Wx t1 A) (hb : SndT C G Wx t2 B) : SndT C G Wx (L2.tAnd t1 t2) (.and A B) := by
  intro Z ρ O e m σ H Q s q
  rw [E.ev] at q
  refine ha Z ρ O e m σ H _ s ?_
  cases ra : A.ev C.cf e m with
  | bad => rw [ra] at q; exact q
  | exc c m' => rw [ra] at q; exact q
  | ok d m' =>
    rw [ra] at q
    cases d with
    | bl b =>
      intro ρ' H' st
      cases b with
      | false => exact q ρ' H' st
      | true =>
        show t2 σ H' Q
        exact hb Z ρ' O e m' σ H' _ st.sr (KT.on s st q)
    | _ => exact q.elim
theorem sndT_or (ha : SndT C G Wx t1 A) (hb : SndT C G Wx t2 B) : SndT C G Wx (L2.tOr t1 t2) (.or A B) := by
  intro Z ρ O e m σ H Q s q
  rw [E.ev] at q
  refine ha Z ρ O e m σ H _ s ?_
  cases ra : A.ev C.cf e m with
  | bad => rw [ra] at q; exact q
  | exc c m' => rw [ra] at q; exact q
  | ok d m' =>
    rw [ra] at q
    cases d with
    | bl b =>
      intro ρ' H' st
      cases b with
      | true => exact q ρ' H' st
      | false =>
        show t2 σ H' Q
        exact hb Z ρ' O e m' σ H' _ st.sr (KT.on s st q)
    | _ => exact q.elim
theorem sndT_not (ha : SndT C G Wx t1 A) : SndT C G Wx (L2.tNot t1) (.op .lnot (.cons A .nil)) := by
  intro Z ρ O e m σ H Q s q
  rw [ev_op1] at q
  refine ha Z ρ O e m σ H _ s ?_
  cases ra : A.ev C.cf e m with
  | bad => rw [ra] at q; exact q
  | exc c m' => rw [ra] at q; exact q
  | ok d m' =>
    rw [ra] at q
    cases d with
    | bl b => exact fun ρ' H' st => q ρ' H' st
    | _ => exact q.elim

/-! ### argument lists, displays -/
theorem sndA_nil : SndA C G Wx L2.tNil .nil := fun Z ρ O e m σ H Q s q => by
  rw [Es.ev] at q
  exact q [] ρ H (.refl s) Reps.nil
theorem sndA_cons (ha : Snd C G Wx .rep ta A) (hr : SndA C G Wx tas As) : SndA C G Wx (L2.tCons ta tas) (.cons A As) := by
  intro Z ρ O e m σ H Q s q
  rw [Es.ev] at q
  refine ha Z ρ O e m σ H _ s ?_
  cases ra : A.ev C.cf e m with
  | bad => rw [ra] at q; exact q
  | exc c m' => rw [ra] at q; exact q
  | ok d m' =>
    rw [ra] at q
    intro v ρ' H1' H' st1' hk1' p
    have st := st1'.trans s (.keep st1'.sr hk1')
    refine hr Z ρ' O e m' σ H' _ st.sr ?_
    cases rb : As.ev C.cf e m' with
    | bad => simp only [R.bind, rb] at q; exact q
    | exc c m2 => simp only [R.bind, rb] at q; exact fun cls dx ρ2 H2 st2 er => q cls dx ρ2 H2 (st.trans s st2) er
    | ok ds m2 =>
      simp only [R.bind, rb] at q
      exact fun vs ρ2 H2 st2 p2 => q (v :: vs) ρ2 H2 (st.trans s st2) (Reps.cons (st2.rep p) p2)
theorem snd_tup (n : Nat) (hn : n ≤ 1000) (ha : SndA C G Wx tas As) (hz : ∀ (e : En) (m : M) (ds : List D) (m' : M), As.ev C.cf e m = .ok ds m' → ds.length = n) : Snd C G Wx .rep (L2.tTup tas) (.op .tup As) := by
  intro Z ρ O e m σ H Q s q
  rw [ev_opN] at q
  refine ha Z ρ O e m σ H _ s ?_
  cases ra : As.ev C.cf e m with
  | bad => rw [ra] at q; exact q
  | exc c m' => rw [ra] at q; exact q
  | ok ds m' =>
    rw [ra] at q
    intro vs ρ' H' st p
    replace q : KE G Wx .rep Z O e σ ρ H Q (appR .tup ds m') := q
    obtain ⟨d2, ro, fin⟩ := appR_end s st q
    replace ro : app_tup ds = some d2 := ro
    cases ro
    have hd := hz e m ds m' ra
    have hs : ds.length ≤ LIM := Nat.le_trans (by omega : ds.length ≤ 1000) (by decide)
    exact ⟨by rw [← p.len, ← LIM_eq]; exact hs, fun p' hp => fin _ _ (upd_k hp) (prep (new_tup st.sr.gd hp hs p))⟩
theorem snd_lst (n : Nat) (hn : n ≤ 1000) (ha : SndA C G Wx tas As) (hz : ∀ (e : En) (m : M) (ds : List D) (m' : M), As.ev C.cf e m = .ok ds m' → ds.length = n) : Snd C G Wx .fre (L2.tLst tas) (.op .lst As) := by
  intro Z ρ O e m σ H Q s q
  rw [ev_opN] at q
  refine ha Z ρ O e m σ H _ s ?_
  cases ra : As.ev C.cf e m with
  | bad => rw [ra] at q; exact q
  | exc c m' => rw [ra] at q; exact q
  | ok ds m' =>
    rw [ra] at q
    intro vs ρ' H' st p
    replace q : KE G Wx .fre Z O e σ ρ H Q (appR .lst ds m') := q
    obtain ⟨d2, ro, fin⟩ := appR_end s st q
    replace ro : app_lst ds = some d2 := ro
    cases ro
    have hd := hz e m ds m' ra
    have hs : ds.length ≤ LIM := Nat.le_trans (by omega : ds.length ≤ 1000) (by decide)
    exact ⟨by rw [← p.len, ← LIM_eq]; exact hs, fun p' hp => fin _ _ (upd_k hp) (new_lst st.sr.gd hp hs p)⟩
def Es.len : Es → Nat
  | .nil => 0
  | .cons _ as => as.len + 1
theorem Es.ev_len {cf : CF} : ∀ (As : Es) (e : En) (m : M) (ds : List D) (m' : M), As.ev cf e m = .ok ds m' → ds.length = As.len
  | .nil, e, m, ds, m', h => by
    rw [Es.ev] at h
    cases h
    rfl
  | .cons A As, e, m, ds, m', h => by
    rw [Es.ev] at h
    cases ra : A.ev cf e m with
    | bad => simp only [R.bind, ra] at h; cases h
    | exc c m1 => simp only [R.bind, ra] at h; cases h
    | ok d m1 =>
      simp only [R.bind, ra] at h
      cases rb : As.ev cf e m1 with
      | bad => simp only [rb] at h; cases h
      | exc c m2 => simp only [rb] at h; cases h
      | ok ds2 m2 =>
        simp only [rb] at h
        cases h
        rw [List.length_cons, Es.ev_len As e m1 ds2 _ rb]
        rfl

/-! ### a list in the memory -/
theorem getElem?_concat {α : Type} (l : List α) (x : α) : (l ++ [x])[l.length]? = some x := by simp
/-- the memory has one more list, at p -/
theorem Stp.newM {p : Addr} {ds : List D} {vs : List V} (s : SR G Z ρ O e m σ H) (hp : H p = none) (z : ds.length ≤ LIM) (r : Reps G H (Wr Z ρ O) ρ ds vs) :
    Stp G Z O e σ ρ H (ρ ++ [p]) (m ++ [.lst ds]) (upd H p (.lst vs)) := by
  have nw : ¬ Wr Z ρ O p := fun q => (s.wt p q).some hp
  have kp : Rf.Kp (Wr Z ρ O) H (upd H p (.lst vs)) := Rf.Kp.new hp
  have pre : ρ <+: ρ ++ [p] := List.prefix_append _ _
  have w : ∀ a, Wr Z (ρ ++ [p]) O a → Wr Z ρ O a ∨ ¬ Lv H a := fun a h => by
    rcases h with h | h | h
    · exact .inl (.inl h)
    · rcases List.mem_append.mp h with h | h
      · exact .inl (.inr (.inl h))
      · rw [List.mem_singleton] at h
        subst h
        exact .inr (nlv hp)
    · exact .inl (.inr (.inr h))
  have nn : ∀ a, Lv H a → Lv (upd H p (.lst vs)) a := fun a h => lv_upd h
  have k0 := upd_k (o := HO.lst vs) hp
  refine ⟨⟨⟨s.mr.tb.ext k0, fun a h => nn a (s.mr.zt a h), fun a h => ?_, ?_, by simp [s.mr.len], fun n xs h => ?_⟩, s.len, s.oi, fun i a h => ⟨(s.oz i a h).1, fun q => ?_⟩, fun i a h => nn a (s.ot i a h), fun i x h => ?_, s.on⟩, fun a o h _ _ => k0 a o h, fun a h => nn a h, pre, fun a h => ?_⟩
  · rcases List.mem_append.mp h with h | h
    · exact s.mr.zr a h
    · rw [List.mem_singleton] at h
      subst h
      exact fun z => nw (.inl z)
  · rw [List.nodup_append]
    refine ⟨s.mr.nd, by simp, fun a ha b hb => ?_⟩
    rw [List.mem_singleton] at hb
    subst hb
    exact fun z => nw (.inr (.inl (z ▸ ha)))
  · by_cases hn : n < m.length
    · rw [List.getElem?_append_left hn] at h
      obtain ⟨a, us, e1, e2, z2, r2⟩ := s.mr.mem n xs h
      refine ⟨a, us, ?_, k0 _ _ e2, z2, Reps.mono kp w pre _ _ r2⟩
      rw [List.getElem?_append_left (by rw [s.mr.len]; exact hn)]
      exact e1
    · have hn2 : n = m.length := by
        have := (List.getElem?_eq_some_iff.mp h).1
        rw [List.length_append, List.length_singleton] at this
        omega
      subst hn2
      rw [getElem?_concat] at h
      cases h
      refine ⟨p, vs, ?_, upd_same, z, Reps.mono kp w pre _ _ r⟩
      rw [← s.mr.len, getElem?_concat]
  · rcases List.mem_append.mp q with q | q
    · exact (s.oz i a h).2 q
    · rw [List.mem_singleton] at q
      subst q
      exact nw (.inr (.inr ⟨i, h⟩))
  · obtain ⟨y, ey, h2⟩ := s.sl i x h
    refine ⟨y, ey, ?_⟩
    cases x with
    | val d =>
      obtain ⟨h3, v, e1, r⟩ := h2
      exact ⟨h3, v, e1, Rep.mono kp w pre _ _ r⟩
    | own d =>
      obtain ⟨a, vs, h3, e1, h4, z, r⟩ := h2
      exact ⟨a, vs, h3, e1, k0 _ _ h4, z, Reps.mono kp w pre _ _ r⟩
    | lock d =>
      obtain ⟨a, vs, h3, e1, h4, z, r⟩ := h2
      exact ⟨a, vs, h3, e1, k0 _ _ h4, z, Reps.mono kp w pre _ _ r⟩
  · rcases List.mem_append.mp h with h | h
    · exact .inl h
    · rw [List.mem_singleton] at h
      subst h
      exact .inr (nlv hp)
theorem snd_newM (n : Nat) (hn : n ≤ 1000) (ha : SndA C G Wx tas As) (hz : ∀ (e : En) (m : M) (ds : List D) (m' : M), As.ev C.cf e m = .ok ds m' → ds.length = n) : Snd C G Wx .rep (L2.tLst tas) (.newM As) := by
  intro Z ρ O e m σ H Q s q
  rw [E.ev] at q
  refine ha Z ρ O e m σ H _ s ?_
  cases ra : As.ev C.cf e m with
  | bad => rw [ra] at q; exact q
  | exc c m' => rw [ra] at q; exact q
  | ok ds m' =>
    rw [ra] at q
    intro vs ρ' H' st p
    have hd := hz e m ds m' ra
    have hs : ds.length ≤ LIM := Nat.le_trans (by omega : ds.length ≤ 1000) (by decide)
    refine ⟨by rw [← p.len, ← LIM_eq]; exact hs, fun p' hp => ?_⟩
    refine q _ _ _ _ (st.trans s (.newM st.sr hp hs p)) keep_refl ?_
    show Rep G _ _ _ _ _
    rw [Rep]
    refine ⟨p', ?_, rfl⟩
    rw [← st.sr.mr.len, getElem?_concat]
end
end Rf

/-! RCtx: the contexts that a text's code runs in, what a def promises, the joined rules for expressions. -/
namespace Rf
open PySem (Str Addr Value Pos Expr Stmt Scope Program World Heap Shared CmpOp Operator UnaryOp)
open L2 (V Hp HO SqL SqT Rd upd upd_same upd_ne VK XK TE TT TA TS TG TI WX Cx Ends OpR R2 rI rI0 PE PT PW PA PS PSs PG PI)

/-- what stays fixed through a text -/
structure Gm where
  P : Program
  w : World
  K : PySem.W.Frag
  mg : Str → Option Value
  base : Heap
  C : Cfg
  k : Nat
  N : List Str
  nd : N.Nodup
  fnb : Str → Bool
  tb : List (Addr × Str)
  lm : Option (Addr × Str)
abbrev Gm.G (g : Gm) : Gl := ⟨g.K, g.mg, g.C.nm, g.C.ids, g.tb⟩

theorem takes0N {X : Cx} : L2N.Takes X (fun _ _ _ _ => False) := fun _ _ x => by
  obtain ⟨_, _, _, _, _, _, _, _, _, _, _, _, _, _, _, _, z⟩ := x
  exact z.elim
/-- what a call leaves -/
structure StpF (G : Gl) (Z : Addr → Prop) (ρ : List Addr) (H : Hp) (ρ' : List Addr) (m' : M) (H' : Hp) : Prop where
  mr : MR G Z ρ' noO m' H'
  kp : ∀ a o, H a = some o → a ∉ ρ → NT o → H' a = some o
  dm : ∀ a, Lv H a → Lv H' a
  pre : ρ <+: ρ'
  new : ∀ a ∈ ρ', a ∈ ρ ∨ ¬ Lv H a
/-- what a def promises of its end -/
def KF (G : Gl) (Z : Addr → Prop) (ρ : List Addr) (H : Hp) (Q : VK) (E : XK) : R D → Prop
  | .ok d m' => ∀ v ρ' H', StpF G Z ρ H ρ' m' H' → Rep G H' (Wr Z ρ' noO) ρ' d v → Q v H'
  | .exc c m' => ∀ cls dx ρ' H', StpF G Z ρ H ρ' m' H' → ErrIs G c cls dx → E cls dx H'
  | .bad => False
def spF (cf : CF) (G : Gl) (n ar : Nat) : L2.Sp := fun vs H Q E => vs.length = ar ∧ ∃ Z ρ ds m, MR G Z ρ noO m H ∧ Reps G H (Wr Z ρ noO) ρ ds vs ∧ KF G Z ρ H Q E (cf n ds m)
/-- the def n may be called -/
structure CallOk (g : Gm) (n : Nat) (x : Str) : Prop where
  ex : ∃ f fd ps, g.mg x = some (.ref f) ∧ PySem.W.keepIn g.K (.ref f) = true ∧ L2.Binds g.K fd ps [] ∧ L2.FnOk g.P g.w g.K g.mg g.base (L2N.CX g.P g.w) (3 * g.k) f fd ps (spF g.C.cf g.G n ps.length)
    ∧ ∀ ds m, ds.length ≠ ps.length → g.C.cf n ds m = .bad
structure Ok (g : Gm) (sc : Scope) (Wx : WX) (X : Cx) : Prop where
  pr : X.prog = g.P
  w : X.w = g.w
  K : X.K = g.K
  mg : X.mg = g.mg
  bs : X.base = g.base
  N : X.N = g.N
  sc : X.env.scope = sc
  calm : X.calm = true
  room : L2.Room (3 * g.k) X.A
  tk : L2N.Takes X Wx
  fn : ∀ x, g.fnb x = true → X.fn x = true
  lam : ∀ c q, g.lm = some (c, q) → X.env.code = .ref c ∧ X.env.qual = q ∧ L2.Room (3 * g.k + 2) X.A
  calls : ∀ n x, g.C.ids n = true → g.C.nm.fn n = some x → CallOk g n x

def SE (g : Gm) (sc : Scope) (Wx : WX) (k : Kd) (e : Expr) (A : E) : Prop := ∃ t, (∀ X, Ok g sc Wx X → PE X e t) ∧ Snd g.C g.G Wx k t A
def ST (g : Gm) (sc : Scope) (Wx : WX) (e : Expr) (A : E) : Prop := ∃ t, (∀ X, Ok g sc Wx X → PT X e t) ∧ SndT g.C g.G Wx t A
def SW (g : Gm) (sc : Scope) (Wx : WX) (e : Expr) (A : E) : Prop := ∃ t, (∀ X, Ok g sc Wx X → PW X e t) ∧ SndT g.C g.G Wx t A
def SA (g : Gm) (sc : Scope) (Wx : WX) (es : List Expr) (A : Es) : Prop := ∃ t, (∀ X, Ok g sc Wx X → PA X es t) ∧ SndA g.C g.G Wx t A

section
variable {g : Gm} {sc : Scope} {Wx : WX} {k : Kd} {a b c e : Expr} {es : List Expr} {A B A' : E} {As : Es} {X : Cx} {pos p p2 p3 : Pos} {x : Str} {i j : Nat}
theorem Ok.units (o : Ok g sc Wx X) : X.A.units + 64 < PySem.cLine := o.room.units
theorem Ok.gl (o : Ok g sc Wx X) (h : sc.names.lookup x = some .globalImplicit) : L2.Gl X x := by
  show X.env.scope.names.lookup x = _
  rw [o.sc]
  exact h
theorem Ok.mgn (o : Ok g sc Wx X) (h : g.mg x = none) : X.mg x = none := by
  rw [o.mg]
  exact h
/-- a name that may be read -/
def vis (sc : Scope) (x : Str) : Bool := match sc.names.lookup x with
  | some .local => true
  | some .cell => true
  | some .free => true
  | _ => false
theorem vis_ok (h : vis sc x = true) : L2.Vis sc x := by
  unfold vis at h
  unfold L2.Vis
  split at h <;> first | (rename_i q; simp [q]) | cases h
theorem Ok.vis (o : Ok g sc Wx X) (h : vis sc x = true) : L2.Vis X.env.scope x := by
  rw [o.sc]
  exact vis_ok h
theorem SE.bor (h : SE g sc Wx k e A) : SE g sc Wx .bor e A := h.imp fun t h => ⟨h.1, h.2.bor⟩
theorem SE.rep (h : SE g sc Wx .fre e A) : SE g sc Wx .rep e A := h.imp fun t h => ⟨h.1, h.2.of_fre⟩

/-! ### names, constants -/
theorem se_var (hN : g.N[i]? = some x) (hv : vis sc x = true) (hd : (x == ("__debug__" : Str)) = false := by decide) (hcd : (x == ("__classdict__" : Str)) = false := by decide) : SE g sc Wx .rep (.Name x pos) (.var i) :=
  ⟨_, fun X o => L2.pe_var (by rw [o.N]; exact hN) (o.vis hv) hd hcd, snd_var⟩
theorem se_bor (hN : g.N[i]? = some x) (hv : vis sc x = true) (hd : (x == ("__debug__" : Str)) = false := by decide) (hcd : (x == ("__classdict__" : Str)) = false := by decide) : SE g sc Wx .bor (.Name x pos) (.bor i) :=
  ⟨_, fun X o => L2.pe_var (by rw [o.N]; exact hN) (o.vis hv) hd hcd, snd_bor⟩
theorem se_int {n : Int} : SE g sc Wx .rep (.Constant (.int n) j pos) (.con (.int n)) := ⟨_, fun X o => L2.pe_int, snd_con fun _ _ _ => rep_int _⟩
theorem se_bl {n : Bool} : SE g sc Wx .rep (.Constant (.bool n) j pos) (.con (.bl n)) := ⟨_, fun X o => L2.pe_bl, snd_con fun _ _ _ => rep_bl _⟩
theorem se_non : SE g sc Wx .rep (.Constant .none j pos) (.con .non) := ⟨_, fun X o => L2.pe_non, snd_con fun _ _ _ => by
  rw [Rep]⟩
def strOkB (s : List Nat) : Bool := decide (s.length ≤ 1000) && s.all fun c => decide (c < 0x110000)
theorem se_str {s : Str} (h : strOkB s.cps.toList = true) : SE g sc Wx .rep (.Constant (.str s) j pos) (.con (.str s.cps.toList)) := ⟨_, fun X o => L2.pe_str, snd_con fun _ _ _ => by
  rw [Rep]
  unfold strOkB at h
  rw [Bool.and_eq_true, decide_eq_true_eq, List.all_eq_true] at h
  exact ⟨rfl, Nat.le_trans h.1 (by decide), fun c hc => of_decide_eq_true (h.2 c hc)⟩⟩
/-- a module's constant -/
theorem se_glob {d : D} {v : V} {u : Value} (hg : sc.names.lookup x = some .globalImplicit) (hm : g.mg x = some u) (hr : L2.RelV v u) (hd : ∀ H W ρ, Rep g.G H W ρ d v) (hdb : (x == ("__debug__" : Str)) = false := by decide) : SE g sc Wx .rep (.Name x pos) (.con d) :=
  ⟨_, fun X o => L2.pe_glob (o.gl hg) (by rw [o.mg]; exact hm) hr hdb, snd_con hd⟩
/-- a def as a value -/
theorem se_fn {n : Nat} {f : Addr} (hg : sc.names.lookup x = some .globalImplicit) (hi : g.C.ids n = true) (hn : g.C.nm.fn n = some x) (hm : g.mg x = some (.ref f)) (hdb : (x == ("__debug__" : Str)) = false := by decide) : SE g sc Wx .rep (.Name x pos) (.con (.fn n)) :=
  se_glob (v := .ref f) (u := .ref f) hg hm rfl (fun _ _ _ => by
    rw [Rep]
    exact ⟨x, f, hi, hn, hm, rfl⟩) hdb

/-! ### operators -/
theorem se_op2 {op : Operator} {o : Op} {r : R2} (ho : ∀ X : Cx, X.K = g.K → OpR X (PySem.binaryOp op) r) (hs : Op2 k g.G r o) (ha : SE g sc Wx .bor a A) (hb : SE g sc Wx .bor b B) : SE g sc Wx k (.BinOp a op b pos) (.op o (.cons A (.cons B .nil))) := by
  obtain ⟨ta, pa, qa⟩ := ha
  obtain ⟨tb, pb, qb⟩ := hb
  exact ⟨_, fun X o => L2.pe_op (ho X o.K) (pa X o) (pb X o), snd_op2 hs qa qb⟩
theorem se_add (ha : SE g sc Wx .bor a A) (hb : SE g sc Wx .bor b B) : SE g sc Wx .fre (.BinOp a .Add b pos) (.op .add (.cons A (.cons B .nil))) := se_op2 (r := rAdd g.K) (fun X h => h ▸ op_addA) o_add ha hb
theorem se_sub (ha : SE g sc Wx .bor a A) (hb : SE g sc Wx .bor b B) : SE g sc Wx .rep (.BinOp a .Sub b pos) (.op .sub (.cons A (.cons B .nil))) := se_op2 (fun X h => L2.op_sub) o_sub ha hb
theorem se_mul (ha : SE g sc Wx .bor a A) (hb : SE g sc Wx .bor b B) : SE g sc Wx .fre (.BinOp a .Mult b pos) (.op .mul (.cons A (.cons B .nil))) := se_op2 (r := rMul g.K) (fun X h => h ▸ op_mulA) o_mul ha hb
theorem se_fdiv (ha : SE g sc Wx .bor a A) (hb : SE g sc Wx .bor b B) : SE g sc Wx .rep (.BinOp a .FloorDiv b pos) (.op .fdiv (.cons A (.cons B .nil))) := se_op2 (fun X h => L2.op_fdivW) o_fdiv ha hb
theorem se_mod (ha : SE g sc Wx .bor a A) (hb : SE g sc Wx .bor b B) : SE g sc Wx .rep (.BinOp a .Mod b pos) (.op .mod (.cons A (.cons B .nil))) := se_op2 (fun X h => L2.op_mod) o_mod ha hb
theorem se_pow (ha : SE g sc Wx .bor a A) (hb : SE g sc Wx .bor b B) : SE g sc Wx .rep (.BinOp a .Pow b pos) (.op .pow (.cons A (.cons B .nil))) := se_op2 (fun X h => L2.op_pow) o_pow ha hb
theorem se_neg (ha : SE g sc Wx .bor a A) : SE g sc Wx .rep (.UnaryOp .USub a pos) (.op .neg (.cons A .nil)) := by
  obtain ⟨ta, pa, qa⟩ := ha
  exact ⟨_, fun X o => L2.pe_un L2.un_neg (pa X o), snd_op1 (r := L2.rU fun i => V.int (-i)) o_neg qa⟩

/-! ### comparisons: as a value, as a test -/
theorem se_cmp {op : CmpOp} {o : Op} {r : R2} (ho : ∀ X, Ok g sc Wx X → OpR X (PySem.compareOp op) r) (hs : Op2 .rep g.G r o) (ha : SE g sc Wx .bor a A) (hb : SE g sc Wx .bor b B) (hm : PySem.behindInMarks op b = false) : SE g sc Wx .rep (.Compare a [op] [b] pos) (.op o (.cons A (.cons B .nil))) := by
  obtain ⟨ta, pa, qa⟩ := ha
  obtain ⟨tb, pb, qb⟩ := hb
  exact ⟨_, fun X o => L2.pe_cmpR (ho X o) (pa X o) (pb X o) hm, snd_op2 hs qa qb⟩
theorem st_cmp {op : CmpOp} {o : Op} {r : R2} (ho : ∀ X, Ok g sc Wx X → OpR X (PySem.compareOp op) r) (hs : Op2 .rep g.G r o) (ha : SE g sc Wx .bor a A) (hb : SE g sc Wx .bor b B) (hm : PySem.behindInMarks op b = false) : ST g sc Wx (.Compare a [op] [b] pos) (.op o (.cons A (.cons B .nil))) := by
  obtain ⟨ta, pa, qa⟩ := ha
  obtain ⟨tb, pb, qb⟩ := hb
  exact ⟨_, fun X o => L2.pt_cmpR (ho X o) (pa X o) (pb X o) hm, sndT_test (snd_op2 hs qa qb)⟩
/-- the comparisons -/
structure CmpR (g : Gm) (sc : Scope) (Wx : WX) (op : CmpOp) (o : Op) (r : R2) : Prop where
  op : ∀ X, Ok g sc Wx X → OpR X (PySem.compareOp op) r
  snd : Op2 .rep g.G r o
theorem k_lt : CmpR g sc Wx .Lt .lt (rI0 fun i j => .bl (decide (i < j))) := ⟨fun X o => L2.op_lt, o_lt⟩
theorem k_le : CmpR g sc Wx .LtE .le (rI0 fun i j => .bl (decide (i ≤ j))) := ⟨fun X o => L2.op_le, o_le⟩
theorem k_gt : CmpR g sc Wx .Gt .gt (rI0 fun i j => .bl (decide (j < i))) := ⟨fun X o => L2.op_gt, o_gt⟩
theorem k_ge : CmpR g sc Wx .GtE .ge (rI0 fun i j => .bl (decide (j ≤ i))) := ⟨fun X o => L2.op_ge, o_ge⟩
theorem k_eq : CmpR g sc Wx .Eq .eq (rEqM g.K false) := ⟨fun X o => o.K ▸ op_eqM o.units, o_eq⟩
theorem k_ne : CmpR g sc Wx .NotEq .ne (rEqM g.K true) := ⟨fun X o => o.K ▸ op_neM o.units, o_ne⟩
theorem k_in : CmpR g sc Wx .In .isin (rInA g.K false) := ⟨fun X o => o.K ▸ op_inA o.units, o_isin⟩
theorem k_notin : CmpR g sc Wx .NotIn .notin (rInA g.K true) := ⟨fun X o => o.K ▸ op_notInA o.units, o_notin⟩
theorem k_isB : CmpR g sc Wx .Is .isB L2.rIsB := ⟨fun X o => L2.op_isBl, o_isB⟩
theorem k_notB : CmpR g sc Wx .IsNot .notB L2.rNotB := ⟨fun X o => L2.op_notBl, o_notB⟩
theorem se_k {op : CmpOp} {o : Op} {r : R2} (h : CmpR g sc Wx op o r) (ha : SE g sc Wx .bor a A) (hb : SE g sc Wx .bor b B) (hm : PySem.behindInMarks op b = false := by rfl) : SE g sc Wx .rep (.Compare a [op] [b] pos) (.op o (.cons A (.cons B .nil))) := se_cmp h.op h.snd ha hb hm
theorem st_k {op : CmpOp} {o : Op} {r : R2} (h : CmpR g sc Wx op o r) (ha : SE g sc Wx .bor a A) (hb : SE g sc Wx .bor b B) (hm : PySem.behindInMarks op b = false := by rfl) : ST g sc Wx (.Compare a [op] [b] pos) (.op o (.cons A (.cons B .nil))) := st_cmp h.op h.snd ha hb hm
theorem se_chain {op op' : CmpOp} {o o' : Op} {r r' : R2} (h : CmpR g sc Wx op o r) (h' : CmpR g sc Wx op' o' r') (ha : SE g sc Wx .bor a A) (hb : SE g sc Wx .bor b B) (hc : SE g sc Wx .bor c A') (hm : PySem.lastMarks [op, op'] [b, c] = false := by with_unfolding_all rfl) :
    SE g sc Wx .rep (.Compare a [op, op'] [b, c] pos) (.chain o o' A B A') := by
  obtain ⟨ta, pa, qa⟩ := ha
  obtain ⟨tb, pb, qb⟩ := hb
  obtain ⟨tc, pc, qc⟩ := hc
  exact ⟨_, fun X o => L2.pe_chain (h.op X o) (h'.op X o) (pa X o) (pb X o) (pc X o) hm, snd_chain h.snd h'.snd qa qb qc⟩
theorem st_chain {op op' : CmpOp} {o o' : Op} {r r' : R2} (h : CmpR g sc Wx op o r) (h' : CmpR g sc Wx op' o' r') (ha : SE g sc Wx .bor a A) (hb : SE g sc Wx .bor b B) (hc : SE g sc Wx .bor c A') (hm : PySem.lastMarks [op, op'] [b, c] = false := by with_unfolding_all rfl) :
    ST g sc Wx (.Compare a [op, op'] [b, c] pos) (.chain o o' A B A') := by
  obtain ⟨ta, pa, qa⟩ := ha
  obtain ⟨tb, pb, qb⟩ := hb
  obtain ⟨tc, pc, qc⟩ := hc
  exact ⟨_, fun X o => L2.pt_chain (h.op X o) (h'.op X o) (pa X o) (pb X o) (pc X o) hm, sndT_test (snd_chain h.snd h'.snd qa qb qc)⟩
/-- is None -/
theorem snd_isN {t : TE} (h : Snd g.C g.G Wx .bor t A) : Snd g.C g.G Wx .rep (L2.tIsN t) (.op .isN (.cons A .nil)) := snd_op1 (r := rIsN) o_isN h
theorem snd_notN {t : TE} (h : Snd g.C g.G Wx .bor t A) : Snd g.C g.G Wx .rep (L2.tNotN t) (.op .notN (.cons A .nil)) := snd_op1 (r := rNotN) o_notN h
theorem se_isN (ha : SE g sc Wx .bor a A) : SE g sc Wx .rep (.Compare a [.Is] [.Constant .none j p2] pos) (.op .isN (.cons A .nil)) := by
  obtain ⟨ta, pa, qa⟩ := ha
  exact ⟨_, fun X o => L2.pe_cmp (L2.pc_isN (pa X o)), snd_isN qa⟩
theorem st_isN (ha : SE g sc Wx .bor a A) : ST g sc Wx (.Compare a [.Is] [.Constant .none j p2] pos) (.op .isN (.cons A .nil)) := by
  obtain ⟨ta, pa, qa⟩ := ha
  exact ⟨_, fun X o => L2.pt_cmp (L2.pc_isN (pa X o)), sndT_val (snd_isN qa)⟩
theorem se_notN (ha : SE g sc Wx .bor a A) : SE g sc Wx .rep (.Compare a [.IsNot] [.Constant .none j p2] pos) (.op .notN (.cons A .nil)) := by
  obtain ⟨ta, pa, qa⟩ := ha
  exact ⟨_, fun X o => L2.pe_cmp (L2.pc_notN (pa X o)), snd_notN qa⟩
theorem st_notN (ha : SE g sc Wx .bor a A) : ST g sc Wx (.Compare a [.IsNot] [.Constant .none j p2] pos) (.op .notN (.cons A .nil)) := by
  obtain ⟨ta, pa, qa⟩ := ha
  exact ⟨_, fun X o => L2.pt_cmp (L2.pc_notN (pa X o)), sndT_val (snd_notN qa)⟩

/-! ### truth -/
theorem st_val (ha : SE g sc Wx k a A) (he : ∀ (env : PySem.Env) whole, PySem.isTrue a env whole = (do let v ← whole; PySem.standAt a.pos; PySem.holding [v] (PySem.truthy v)) := by intros; rfl) : ST g sc Wx a A := by
  obtain ⟨ta, pa, qa⟩ := ha
  exact ⟨_, fun X o => L2.pt_val (pa X o) (he X.env), sndT_val qa⟩
theorem st_not (ha : ST g sc Wx a A) : ST g sc Wx (.UnaryOp .Not a pos) (.op .lnot (.cons A .nil)) := by
  obtain ⟨ta, pa, qa⟩ := ha
  exact ⟨_, fun X o => L2.pt_not (pa X o), sndT_not qa⟩
theorem se_not (ha : SE g sc Wx k a A) : SE g sc Wx .rep (.UnaryOp .Not a pos) (.op .lnot (.cons A .nil)) := by
  obtain ⟨ta, pa, qa⟩ := ha
  exact ⟨_, fun X o => L2.pe_not (pa X o), snd_not qa⟩
theorem SW.st (h : SW g sc Wx e A) : ST g sc Wx e A := h.imp fun t h => ⟨fun X o => (h.1 X o).pt, h.2⟩
theorem sw_and1 (ha : ST g sc Wx a A) : SW g sc Wx (.BoolOp .And [a] pos) A := ha.imp fun t h => ⟨fun X o => L2.pw_and1 (h.1 X o), h.2⟩
theorem sw_or1 (ha : ST g sc Wx a A) : SW g sc Wx (.BoolOp .Or [a] pos) A := ha.imp fun t h => ⟨fun X o => L2.pw_or1 (h.1 X o), h.2⟩
theorem sw_and (ha : ST g sc Wx a A) (hb : SW g sc Wx (.BoolOp .And (b :: es) pos) B) : SW g sc Wx (.BoolOp .And (a :: b :: es) pos) (.and A B) := by
  obtain ⟨ta, pa, qa⟩ := ha
  obtain ⟨tb, pb, qb⟩ := hb
  exact ⟨_, fun X o => L2.pw_and (pa X o) (pb X o), sndT_and qa qb⟩
theorem sw_or (ha : ST g sc Wx a A) (hb : SW g sc Wx (.BoolOp .Or (b :: es) pos) B) : SW g sc Wx (.BoolOp .Or (a :: b :: es) pos) (.or A B) := by
  obtain ⟨ta, pa, qa⟩ := ha
  obtain ⟨tb, pb, qb⟩ := hb
  exact ⟨_, fun X o => L2.pw_or (pa X o) (pb X o), sndT_or qa qb⟩
theorem se_one {op} (ha : SE g sc Wx k a A) : SE g sc Wx k (.BoolOp op [a] pos) A := ha.imp fun t h => ⟨fun X o => L2.pe_one (h.1 X o), h.2⟩
theorem se_and (ha : SE g sc Wx k a A) (hb : SE g sc Wx .rep (.BoolOp .And (b :: es) pos) B) : SE g sc Wx .rep (.BoolOp .And (a :: b :: es) pos) (.and A B) := by
  obtain ⟨ta, pa, qa⟩ := ha
  obtain ⟨tb, pb, qb⟩ := hb
  exact ⟨_, fun X o => L2.pe_and (pa X o) (pb X o), snd_and qa qb⟩
theorem se_or (ha : SE g sc Wx k a A) (hb : SE g sc Wx .rep (.BoolOp .Or (b :: es) pos) B) : SE g sc Wx .rep (.BoolOp .Or (a :: b :: es) pos) (.or A B) := by
  obtain ⟨ta, pa, qa⟩ := ha
  obtain ⟨tb, pb, qb⟩ := hb
  exact ⟨_, fun X o => L2.pe_or (pa X o) (pb X o), snd_or qa qb⟩
theorem se_ite (hc : ST g sc Wx c A') (ha : SE g sc Wx k a A) (hb : SE g sc Wx k b B) : SE g sc Wx k (.IfExp c a b pos) (.ite A' A B) := by
  obtain ⟨tc, pc, qc⟩ := hc
  obtain ⟨ta, pa, qa⟩ := ha
  obtain ⟨tb, pb, qb⟩ := hb
  exact ⟨_, fun X o => L2.pe_ifExp (pc X o) (pa X o) (pb X o), snd_ite qc qa qb⟩

/-! ### argument lists, displays -/
theorem sa_nil : SA g sc Wx [] .nil := ⟨_, fun X o => L2.pa_nil, sndA_nil⟩
theorem sa_cons (ha : SE g sc Wx .rep a A) (hr : SA g sc Wx es As) (hs : ∀ env : PySem.Env, PySem.starEach (a :: es) env = (false, PySem.eval a env) :: PySem.starEach es env := by intro _; rfl) : SA g sc Wx (a :: es) (.cons A As) := by
  obtain ⟨ta, pa, qa⟩ := ha
  obtain ⟨tr, pr, qr⟩ := hr
  exact ⟨_, fun X o => L2.pa_cons (pa X o) (pr X o) (hs _), sndA_cons qa qr⟩
theorem se_tup {x1} (h : SA g sc Wx es As) (hl : decide (As.len ≤ 1000) = true := by rfl) : SE g sc Wx .rep (.Tuple es x1 pos) (.op .tup As) := by
  obtain ⟨ta, pa, qa⟩ := h
  exact ⟨_, fun X o => L2.pe_tup (pa X o), snd_tup _ (of_decide_eq_true hl) qa fun e m ds m' => Es.ev_len As e m ds m'⟩
theorem se_lst (h : SA g sc Wx es As) (hl : decide (As.len ≤ 1000) = true := by rfl) : SE g sc Wx .fre (.List es pos) (.op .lst As) := by
  obtain ⟨ta, pa, qa⟩ := h
  exact ⟨_, fun X o => L2.pe_lst (pa X o), snd_lst _ (of_decide_eq_true hl) qa fun e m ds m' => Es.ev_len As e m ds m'⟩
theorem se_newM (h : SA g sc Wx es As) (hl : decide (As.len ≤ 1000) = true := by rfl) : SE g sc Wx .rep (.List es pos) (.newM As) := by
  obtain ⟨ta, pa, qa⟩ := h
  exact ⟨_, fun X o => L2.pe_lst (pa X o), snd_newM _ (of_decide_eq_true hl) qa fun e m ds m' => Es.ev_len As e m ds m'⟩

/-! ### items, slices -/
theorem se_ix (ha : SE g sc Wx .bor a A) (hb : SE g sc Wx .bor b B) (hs : L2.PlainIx b := by intros _ _; rfl) : SE g sc Wx .rep (.Subscript a b pos) (.op .ix (.cons A (.cons B .nil))) := by
  obtain ⟨ta, pa, qa⟩ := ha
  obtain ⟨tb, pb, qb⟩ := hb
  exact ⟨_, fun X o => L2.pe_ix (r := L2.rIx g.K) (o.K ▸ L2.ix_seq) (pa X o) (pb X o) hs, snd_op2 o_ix qa qb⟩
theorem se_slF (ha : SE g sc Wx .bor a A) (hb : SE g sc Wx .bor b B) : SE g sc Wx .fre (.Subscript a (.Slice (some b) none none p2) pos) (.op .slF (.cons A (.cons B .nil))) := by
  obtain ⟨ta, pa, qa⟩ := ha
  obtain ⟨tb, pb, qb⟩ := hb
  exact ⟨_, fun X o => L2.pe_slice (r := rSl g.K) (o.K ▸ sl_any) (pa X o) (L2.po_some (pb X o)) L2.po_none, snd_slF (tl := L2.tNoPart) qa qb⟩
theorem se_slT (ha : SE g sc Wx .bor a A) (hb : SE g sc Wx .bor b B) : SE g sc Wx .fre (.Subscript a (.Slice none (some b) none p2) pos) (.op .slT (.cons A (.cons B .nil))) := by
  obtain ⟨ta, pa, qa⟩ := ha
  obtain ⟨tb, pb, qb⟩ := hb
  exact ⟨_, fun X o => L2.pe_slice (r := rSl g.K) (o.K ▸ sl_any) (pa X o) L2.po_none (L2.po_some (pb X o)), snd_slT qa qb⟩
theorem se_slc (ha : SE g sc Wx .bor a A) (hb : SE g sc Wx .bor b B) (hc : SE g sc Wx .bor c A') : SE g sc Wx .fre (.Subscript a (.Slice (some b) (some c) none p2) pos) (.slc A B A') := by
  obtain ⟨ta, pa, qa⟩ := ha
  obtain ⟨tb, pb, qb⟩ := hb
  obtain ⟨tc, pc, qc⟩ := hc
  exact ⟨_, fun X o => L2.pe_slice (r := rSl g.K) (o.K ▸ sl_any) (pa X o) (L2.po_some (pb X o)) (L2.po_some (pc X o)), snd_slc qa qb qc⟩

/-! ### calls of built-ins -/
/-- the name is the module builtins' own -/
def isBlt (g : Gm) (sc : Scope) (x : Str) (u : Value) : Prop := sc.names.lookup x = some .globalImplicit ∧ g.mg x = none ∧ PySem.bootBuiltins x = some u ∧ x ≠ "__name__" ∧ (x == ("__debug__" : Str)) = false
theorem pa_any1 {ta : TE} (ha : PE X a ta) (hs : PySem.starEach [a] X.env = [(false, PySem.eval a X.env)]) : PA X [a] (L2.tCons ta L2.tNil) := L2.pa_cons ha L2.pa_nil hs
theorem se_cB1 {id : String} {o : Op} {r : RL} (hc : ∀ X, Ok g sc Wx X → L2.CallR X (.builtin id) r) (ho : OpC1 k g.G r o) (hx : isBlt g sc x (.builtin id)) (ha : SE g sc Wx .bor a A) (hs : ∀ env : PySem.Env, PySem.starEach [a] env = [(false, PySem.eval a env)] := by intro _; rfl) :
    SE g sc Wx k (.Call (.Name x p) [a] [] pos) (.op o (.cons A .nil)) := by
  obtain ⟨ta, pa, qa⟩ := ha
  exact ⟨_, fun X ok => L2.pe_callB (hc X ok) (ok.gl hx.1) (ok.mgn hx.2.1) hx.2.2.1 (pa_any1 (pa X ok) (hs _)) hx.2.2.2.1 hx.2.2.2.2 (hs _) rfl, snd_c1 ho qa⟩
theorem se_cB2 {id : String} {o : Op} {r : RL} (hc : ∀ X, Ok g sc Wx X → L2.CallR X (.builtin id) r) (ho : OpC2 k g.G r o) (hx : isBlt g sc x (.builtin id)) (ha : SE g sc Wx .bor a A) (hb : SE g sc Wx .bor b B) (hs : ∀ env : PySem.Env, PySem.starEach [a, b] env = [(false, PySem.eval a env), (false, PySem.eval b env)] := by intro _; rfl) (hs2 : ∀ env : PySem.Env, PySem.starEach [b] env = [(false, PySem.eval b env)] := by intro _; rfl) :
    SE g sc Wx k (.Call (.Name x p) [a, b] [] pos) (.op o (.cons A (.cons B .nil))) := by
  obtain ⟨ta, pa, qa⟩ := ha
  obtain ⟨tb, pb, qb⟩ := hb
  exact ⟨_, fun X ok => L2.pe_callB (hc X ok) (ok.gl hx.1) (ok.mgn hx.2.1) hx.2.2.1 (L2.pa_cons (pa X ok) (pa_any1 (pb X ok) (hs2 _)) (by rw [hs, hs2])) hx.2.2.2.1 hx.2.2.2.2 (by rw [hs, hs2]) (by rw [hs2]; rfl), snd_c2 ho qa qb⟩
end
end Rf

/-! RSt: what is stored in slots and lists, over the states. -/
namespace Rf
open PySem (Str Addr Value Pos Expr Stmt Scope Program World Heap Shared)
open L2 (V Hp HO SqL SqT Rd upd upd_same upd_ne VK XK TE TT TA TS TG TI WX Cx Ends)
section
variable {G : Gl} {Z Z' : Addr → Prop} {ρ ρ' : List Addr} {O O' : Nat → Option Addr} {e : En} {m m' : M} {σ : L2.St} {H H' H0 : Hp} {W W' : Addr → Prop}

theorem Rep.shr (w : ∀ a, W' a → W a) {d : D} {v : V} (h : Rep G H W ρ d v) : Rep G H W' ρ d v := Rep.mono Kp.refl (fun a h => .inl (w a h)) (List.prefix_refl _) d v h
theorem Reps.shr (w : ∀ a, W' a → W a) {d : List D} {v : List V} (h : Reps G H W ρ d v) : Reps G H W' ρ d v := Reps.mono Kp.refl (fun a h => .inl (w a h)) (List.prefix_refl _) d v h
/-- fewer own lists -/
def OLe (O' O : Nat → Option Addr) : Prop := ∀ i a, O' i = some a → O i = some a
theorem OLe.refl : OLe O O := fun _ _ h => h
theorem OLe.trans {O2 : Nat → Option Addr} (h : OLe O2 O') (h' : OLe O' O) : OLe O2 O := fun i a k => h' i a (h i a k)
theorem OLe.no : OLe noO O := fun _ _ h => nomatch h
theorem OLe.w (h : OLe O' O) : ∀ a, Wr Z ρ O' a → Wr Z ρ O a := fun a k => k.imp id fun k => k.imp id fun ⟨i, k⟩ => ⟨i, h i a k⟩
theorem MR.shr (h : OLe O' O) (s : MR G Z ρ O m H) : MR G Z ρ O' m H := ⟨s.tb, s.zt, s.zr, s.nd, s.len, fun n xs e => by
  obtain ⟨a, vs, e1, e2, z, r⟩ := s.mem n xs e
  exact ⟨a, vs, e1, e2, z, r.shr h.w⟩⟩
theorem SlR.shr (h : OLe O' O) {o : Option Addr} {s : Sl} {x : Option V} (r : SlR G H (Wr Z ρ O) ρ o s x) : SlR G H (Wr Z ρ O') ρ o s x := by
  cases s with
  | val d =>
    obtain ⟨h1, v, h2, h3⟩ := r
    exact ⟨h1, v, h2, h3.shr h.w⟩
  | own d =>
    obtain ⟨a, vs, h1, h2, h3, z, h4⟩ := r
    exact ⟨a, vs, h1, h2, h3, z, h4.shr h.w⟩
  | lock d =>
    obtain ⟨a, vs, h1, h2, h3, z, h4⟩ := r
    exact ⟨a, vs, h1, h2, h3, z, h4.shr h.w⟩
def dropO (O : Nat → Option Addr) (i : Nat) : Nat → Option Addr := fun j => if j = i then none else O j
theorem dropO_le {i : Nat} : OLe (dropO O i) O := fun j a h => by
  unfold dropO at h
  split at h
  · cases h
  · exact h
theorem En.free_lt {i : Nat} (h : e.free i = true) : i < e.length := by
  unfold En.free at h
  cases q : e[i]? with
  | none => rw [q] at h; cases h
  | some s => exact (List.getElem?_eq_some_iff.mp q).1
/-- a value in a slot -/
theorem SR.put {i : Nat} {d : D} {v : V} (s : SR G Z ρ O e m σ H) (hf : i < e.length) (r : Rep G H (Wr Z ρ O) ρ d v) :
    SR G Z ρ (dropO O i) (e.set i (some (.val d))) m (σ.set i (some v)) H := by
  refine ⟨s.mr.shr dropO_le, by rw [List.length_set, List.length_set]; exact s.len, fun j k a h1 h2 => s.oi j k a (dropO_le j a h1) (dropO_le k a h2), fun j a h => s.oz j a (dropO_le j a h), fun j a h => s.ot j a (dropO_le j a h), fun j x hx => ?_, fun j hj => ?_⟩
  · by_cases hji : i = j
    · subst hji
      rw [List.getElem?_set_self hf] at hx
      cases hx
      refine ⟨some v, List.getElem?_set_self (by rw [s.len]; exact hf), ?_⟩
      exact ⟨by unfold dropO; rw [if_pos rfl], v, rfl, r.shr dropO_le.w⟩
    · rw [List.getElem?_set_ne hji] at hx
      obtain ⟨y, ey, h2⟩ := s.sl j x hx
      refine ⟨y, by rw [List.getElem?_set_ne hji]; exact ey, ?_⟩
      have e1 : dropO O i j = O j := by
        unfold dropO
        rw [if_neg (fun z => hji z.symm)]
      rw [e1]
      exact h2.shr dropO_le
  · by_cases hji : i = j
    · subst hji
      unfold dropO
      rw [if_pos rfl]
    · have e1 : dropO O i j = O j := by
        unfold dropO
        rw [if_neg (fun z => hji z.symm)]
      rw [e1]
      refine s.on j fun x hx => hj x ?_
      rw [List.getElem?_set_ne hji]
      exact hx
def setO (O : Nat → Option Addr) (i : Nat) (a : Addr) : Nat → Option Addr := fun j => if j = i then some a else O j
theorem setO_ne {i j : Nat} {a : Addr} (h : j ≠ i) : setO O i a j = O j := by
  unfold setO
  rw [if_neg h]
theorem setO_w {i : Nat} {a : Addr} : ∀ b, Wr Z ρ (setO O i a) b → Wr Z ρ O b ∨ b = a := fun b h => by
  rcases h with h | h | ⟨j, h⟩
  · exact .inl (.inl h)
  · exact .inl (.inr (.inl h))
  · by_cases hj : j = i
    · subst hj
      unfold setO at h
      rw [if_pos rfl] at h
      exact .inr (Option.some.inj h).symm
    · rw [setO_ne hj] at h
      exact .inl (.inr (.inr ⟨j, h⟩))
/-- a new list, made at p over H, in a slot of its own -/
theorem SR.own {i : Nat} {p : Addr} {ds : List D} {vs : List V} (s : SR G Z ρ O e m σ H) (hf : i < e.length) (hp : H p = none) (k : ∀ a u, H a = some u → H' a = some u) (hl : H' p = some (.lst vs)) (z : ds.length ≤ LIM) (r : Reps G H (Wr Z ρ O) ρ ds vs) :
    SR G Z ρ (setO O i p) (e.set i (some (.own ds))) m (σ.set i (some (.ref p))) H' := by
  have kp : Kp (Wr Z ρ O) H H' := fun a o h _ _ => k a o h
  have w : ∀ a, Wr Z ρ (setO O i p) a → Wr Z ρ O a ∨ ¬ Lv H a := fun a h => (setO_w a h).imp id fun q => by
    rw [q]
    exact nlv hp
  have nn := keep_dm k
  have pr : p ∉ ρ := fun q => (s.mr.rt p q).some hp
  have pz : ¬ Z p := fun q => (s.mr.zt p q).some hp
  have po : ∀ j, O j ≠ some p := fun j q => (s.ot j p q).some hp
  refine ⟨⟨s.mr.tb.ext k, fun a h => nn a (s.mr.zt a h), s.mr.zr, s.mr.nd, s.mr.len, fun n xs h => ?_⟩, by rw [List.length_set, List.length_set]; exact s.len, fun j l a h1 h2 => ?_, fun j a h => ?_, fun j a h => ?_, fun j x hx => ?_, fun j hj => ?_⟩
  · obtain ⟨a, us, e1, e2, z2, r2⟩ := s.mr.mem n xs h
    exact ⟨a, us, e1, k _ _ e2, z2, Reps.mono kp w (List.prefix_refl _) _ _ r2⟩
  · by_cases hj : j = i
    · by_cases hl : l = i
      · rw [hj, hl]
      · rw [setO_ne hl] at h2
        unfold setO at h1
        rw [if_pos hj] at h1
        cases h1
        exact absurd h2 (po l)
    · rw [setO_ne hj] at h1
      by_cases hl : l = i
      · unfold setO at h2
        rw [if_pos hl] at h2
        cases h2
        exact absurd h1 (po j)
      · rw [setO_ne hl] at h2
        exact s.oi j l a h1 h2
  · by_cases hj : j = i
    · unfold setO at h
      rw [if_pos hj] at h
      cases h
      exact ⟨pz, pr⟩
    · rw [setO_ne hj] at h
      exact s.oz j a h
  · by_cases hj : j = i
    · unfold setO at h
      rw [if_pos hj] at h
      cases h
      exact ⟨_, hl, nt_lst⟩
    · rw [setO_ne hj] at h
      exact nn a (s.ot j a h)
  · by_cases hji : i = j
    · subst hji
      rw [List.getElem?_set_self hf] at hx
      cases hx
      refine ⟨some (.ref p), List.getElem?_set_self (by rw [s.len]; exact hf), ?_⟩
      exact ⟨p, vs, by unfold setO; rw [if_pos rfl], rfl, hl, z, Reps.mono kp w (List.prefix_refl _) _ _ r⟩
    · rw [List.getElem?_set_ne hji] at hx
      obtain ⟨y, ey, h2⟩ := s.sl j x hx
      refine ⟨y, by rw [List.getElem?_set_ne hji]; exact ey, ?_⟩
      rw [setO_ne (fun z => hji z.symm)]
      cases x with
      | val d =>
        obtain ⟨h3, v, e1, r⟩ := h2
        exact ⟨h3, v, e1, Rep.mono kp w (List.prefix_refl _) _ _ r⟩
      | own d =>
        obtain ⟨a, vs, h3, e1, h4, z, r⟩ := h2
        exact ⟨a, vs, h3, e1, k _ _ h4, z, Reps.mono kp w (List.prefix_refl _) _ _ r⟩
      | lock d =>
        obtain ⟨a, vs, h3, e1, h4, z, r⟩ := h2
        exact ⟨a, vs, h3, e1, k _ _ h4, z, Reps.mono kp w (List.prefix_refl _) _ _ r⟩
  · by_cases hji : i = j
    · subst hji
      obtain ⟨d, hd⟩ := hj (.own ds) (by rw [List.getElem?_set_self hf])
      cases hd
    · rw [setO_ne (fun z => hji z.symm)]
      refine s.on j fun x hx => hj x ?_
      rw [List.getElem?_set_ne hji]
      exact hx
/-- the list that a slot owns, written -/
theorem SR.wr {i : Nat} {p : Addr} {ds es : List D} {vs us : List V} (s : SR G Z ρ O e m σ H) (hi : e[i]? = some (some (.own ds))) (ho : O i = some p) (hl : H p = some (.lst vs)) (z : es.length ≤ LIM) (r : Reps G H (Wr Z ρ O) ρ es us) :
    SR G Z ρ O (e.set i (some (.own es))) m σ (upd H p (.lst us)) := by
  have hw : Wr Z ρ O p := .inr (.inr ⟨i, ho⟩)
  have kp : Kp (Wr Z ρ O) H (upd H p (.lst us)) := Kp.wr hw
  have w : ∀ a, Wr Z ρ O a → Wr Z ρ O a ∨ ¬ Lv H a := fun a h => .inl h
  have hlt : i < e.length := (List.getElem?_eq_some_iff.mp hi).1
  have pz := s.oz i p ho
  have nn : ∀ a, Lv H a → Lv (upd H p (.lst us)) a := fun a h => lv_upd h
  refine ⟨⟨fun q hq => ?_, fun a h => nn a (s.mr.zt a h), s.mr.zr, s.mr.nd, s.mr.len, fun n xs h => ?_⟩, by rw [List.length_set]; exact s.len, s.oi, s.oz, fun j a h => nn a (s.ot j a h), fun j x hx => ?_, fun j hj => ?_⟩
  · obtain ⟨ps, h1, h2, h3⟩ := s.mr.tb q hq
    have ne : ∀ c u, H c = some u → (∀ xs, u ≠ .lst xs) → upd H p (.lst us) c = some u := fun c u hc hn => by
      rw [upd_ne fun z => by
        rw [z, hl] at hc
        cases hc
        exact hn _ rfl]
      exact hc
    refine ⟨ps, ne _ _ h1 (fun _ z => nomatch z), h2, fun pos cv hc => ?_⟩
    obtain ⟨c, e1, e2⟩ := h3 pos cv hc
    exact ⟨c, e1, ne _ _ e2 (fun _ z => nomatch z)⟩
  · obtain ⟨a, ws, e1, e2, z2, r2⟩ := s.mr.mem n xs h
    have ne : a ≠ p := fun q => pz.2 (q ▸ List.mem_of_getElem? e1)
    exact ⟨a, ws, e1, by rw [upd_ne ne]; exact e2, z2, Reps.mono kp w (List.prefix_refl _) _ _ r2⟩
  · by_cases hji : i = j
    · subst hji
      rw [List.getElem?_set_self hlt] at hx
      cases hx
      obtain ⟨y, ey, h2⟩ := s.sl i _ hi
      obtain ⟨a, ws, h3, e1, h4, _⟩ := h2
      rw [ho] at h3
      cases h3
      exact ⟨y, ey, p, us, ho, e1, upd_same, z, Reps.mono kp w (List.prefix_refl _) _ _ r⟩
    · rw [List.getElem?_set_ne hji] at hx
      obtain ⟨y, ey, h2⟩ := s.sl j x hx
      refine ⟨y, ey, ?_⟩
      have ne : ∀ a, O j = some a → a ≠ p := fun a q q2 => hji (s.oi i j p ho (q2 ▸ q))
      cases x with
      | val d =>
        obtain ⟨h3, v, e1, r⟩ := h2
        exact ⟨h3, v, e1, Rep.mono kp w (List.prefix_refl _) _ _ r⟩
      | own d =>
        obtain ⟨a, vs, h3, e1, h4, z, r⟩ := h2
        exact ⟨a, vs, h3, e1, by rw [upd_ne (ne a h3)]; exact h4, z, Reps.mono kp w (List.prefix_refl _) _ _ r⟩
      | lock d =>
        obtain ⟨a, vs, h3, e1, h4, z, r⟩ := h2
        exact ⟨a, vs, h3, e1, by rw [upd_ne (ne a h3)]; exact h4, z, Reps.mono kp w (List.prefix_refl _) _ _ r⟩
  · by_cases hji : i = j
    · subst hji
      obtain ⟨d, hd⟩ := hj (.own es) (by rw [List.getElem?_set_self hlt])
      cases hd
    · refine s.on j fun x hx => hj x ?_
      rw [List.getElem?_set_ne hji]
      exact hx
/-- a list of the memory, written -/
theorem SR.mwr {n : Nat} {p : Addr} {xs es : List D} {vs us : List V} (s : SR G Z ρ O e m σ H) (hi : m[n]? = some (.lst xs)) (hr : ρ[n]? = some p) (hl : H p = some (.lst vs)) (z : es.length ≤ LIM) (r : Reps G H (Wr Z ρ O) ρ es us) :
    SR G Z ρ O e (m.set n (.lst es)) σ (upd H p (.lst us)) := by
  have pm : p ∈ ρ := List.mem_of_getElem? hr
  have hw : Wr Z ρ O p := .inr (.inl pm)
  have kp : Kp (Wr Z ρ O) H (upd H p (.lst us)) := Kp.wr hw
  have w : ∀ a, Wr Z ρ O a → Wr Z ρ O a ∨ ¬ Lv H a := fun a h => .inl h
  have hlt : n < m.length := (List.getElem?_eq_some_iff.mp hi).1
  have nn : ∀ a, Lv H a → Lv (upd H p (.lst us)) a := fun a h => lv_upd h
  refine ⟨⟨fun q hq => ?_, fun a h => nn a (s.mr.zt a h), s.mr.zr, s.mr.nd, by rw [List.length_set]; exact s.mr.len, fun k ys h => ?_⟩, s.len, s.oi, s.oz, fun j a h => nn a (s.ot j a h), fun j x hx => ?_, s.on⟩
  · obtain ⟨ps, h1, h2, h3⟩ := s.mr.tb q hq
    have ne : ∀ c u, H c = some u → (∀ xs, u ≠ .lst xs) → upd H p (.lst us) c = some u := fun c u hc hn => by
      rw [upd_ne fun z => by
        rw [z, hl] at hc
        cases hc
        exact hn _ rfl]
      exact hc
    refine ⟨ps, ne _ _ h1 (fun _ z => nomatch z), h2, fun pos cv hc => ?_⟩
    obtain ⟨c, e1, e2⟩ := h3 pos cv hc
    exact ⟨c, e1, ne _ _ e2 (fun _ z => nomatch z)⟩
  · by_cases hk : n = k
    · subst hk
      rw [List.getElem?_set_self hlt] at h
      cases h
      exact ⟨p, us, hr, upd_same, z, Reps.mono kp w (List.prefix_refl _) _ _ r⟩
    · rw [List.getElem?_set_ne hk] at h
      obtain ⟨a, ws, e1, e2, z2, r2⟩ := s.mr.mem k ys h
      have ne : a ≠ p := fun q => by
        subst q
        exact hk ((List.getElem?_inj (List.getElem?_eq_some_iff.mp hr).1 s.mr.nd).mp (hr.trans e1.symm))
      exact ⟨a, ws, e1, by rw [upd_ne ne]; exact e2, z2, Reps.mono kp w (List.prefix_refl _) _ _ r2⟩
  · obtain ⟨y, ey, h2⟩ := s.sl j x hx
    refine ⟨y, ey, ?_⟩
    have ne : ∀ a, O j = some a → a ≠ p := fun a q q2 => (s.oz j a q).2 (q2 ▸ pm)
    cases x with
    | val d =>
      obtain ⟨h3, v, e1, r⟩ := h2
      exact ⟨h3, v, e1, Rep.mono kp w (List.prefix_refl _) _ _ r⟩
    | own d =>
      obtain ⟨a, vs, h3, e1, h4, z, r⟩ := h2
      exact ⟨a, vs, h3, e1, by rw [upd_ne (ne a h3)]; exact h4, z, Reps.mono kp w (List.prefix_refl _) _ _ r⟩
    | lock d =>
      obtain ⟨a, vs, h3, e1, h4, z, r⟩ := h2
      exact ⟨a, vs, h3, e1, by rw [upd_ne (ne a h3)]; exact h4, z, Reps.mono kp w (List.prefix_refl _) _ _ r⟩
/-- an own list that is one no more -/
theorem SR.frz {i : Nat} {ds : List D} (s : SR G Z ρ O e m σ H) (hi : e[i]? = some (some (.own ds))) : SR G Z ρ (dropO O i) (e.set i (some (.val (.lst ds)))) m σ H := by
  obtain ⟨y, ey, a, vs, h1, h2, h3, z, r⟩ := s.sl i _ hi
  have hlt : i < e.length := (List.getElem?_eq_some_iff.mp hi).1
  have na : ¬ Wr Z ρ (dropO O i) a := fun q => by
    rcases q with q | q | ⟨j, q⟩
    · exact (s.oz i a h1).1 q
    · exact (s.oz i a h1).2 q
    · have q2 := dropO_le j a q
      have e1 := s.oi i j a h1 q2
      subst e1
      unfold dropO at q
      rw [if_pos rfl] at q
      cases q
  have e0 : σ.set i (some (.ref a)) = σ := by
    apply List.ext_getElem?
    intro j
    by_cases hj : i = j
    · subst hj
      rw [List.getElem?_set_self (by rw [s.len]; exact hlt), ey, h2]
    · rw [List.getElem?_set_ne hj]
  refine ⟨s.mr.shr dropO_le, by rw [List.length_set]; exact s.len, fun j k a h1 h2 => s.oi j k a (dropO_le j a h1) (dropO_le k a h2), fun j a h => s.oz j a (dropO_le j a h), fun j a h => s.ot j a (dropO_le j a h), fun j x hx => ?_, fun j hj => ?_⟩
  · by_cases hji : i = j
    · subst hji
      rw [List.getElem?_set_self hlt] at hx
      cases hx
      refine ⟨y, ey, by unfold dropO; rw [if_pos rfl], .ref a, h2, ?_⟩
      rw [Rep]
      exact ⟨a, vs, rfl, ⟨h3, na⟩, z, r.shr dropO_le.w⟩
    · rw [List.getElem?_set_ne hji] at hx
      obtain ⟨y, ey, h2⟩ := s.sl j x hx
      refine ⟨y, ey, ?_⟩
      have e1 : dropO O i j = O j := by
        unfold dropO
        rw [if_neg (fun z => hji z.symm)]
      rw [e1]
      exact h2.shr dropO_le
  · by_cases hji : i = j
    · subst hji
      unfold dropO
      rw [if_pos rfl]
    · have e1 : dropO O i j = O j := by
        unfold dropO
        rw [if_neg (fun z => hji z.symm)]
      rw [e1]
      refine s.on j fun x hx => hj x ?_
      rw [List.getElem?_set_ne hji]
      exact hx
/-- own, locked: the same to the heap -/
theorem SR.lk {i : Nat} {ds : List D} {s' : Sl} (s : SR G Z ρ O e m σ H) (hi : (e[i]? = some (some (.own ds)) ∧ s' = .lock ds) ∨ (e[i]? = some (some (.lock ds)) ∧ s' = .own ds)) : SR G Z ρ O (e.set i (some s')) m σ H := by
  have hlt : i < e.length := by
    rcases hi with h | h <;> exact (List.getElem?_eq_some_iff.mp h.1).1
  refine ⟨s.mr, by rw [List.length_set]; exact s.len, s.oi, s.oz, s.ot, fun j x hx => ?_, fun j hj => ?_⟩
  · by_cases hji : i = j
    · subst hji
      rw [List.getElem?_set_self hlt] at hx
      cases hx
      rcases hi with ⟨h, rfl⟩ | ⟨h, rfl⟩
      · exact s.sl i (.own ds) h
      · exact s.sl i (.lock ds) h
    · rw [List.getElem?_set_ne hji] at hx
      exact s.sl j x hx
  · by_cases hji : i = j
    · subst hji
      obtain ⟨d, hd⟩ := hj s' (by rw [List.getElem?_set_self hlt])
      rcases hi with ⟨h, rfl⟩ | ⟨h, rfl⟩ <;> cases hd
    · refine s.on j fun x hx => hj x ?_
      rw [List.getElem?_set_ne hji]
      exact hx
/-- a slot's value forgotten -/
theorem SR.wipe1 {i : Nat} (s : SR G Z ρ O e m σ H) (hi : ∀ x, e[i]? = some (some x) → ∃ d, x = .val d) : SR G Z ρ O (e.set i none) m (σ.set i none) H := by
  refine ⟨s.mr, by rw [List.length_set, List.length_set]; exact s.len, s.oi, s.oz, s.ot, fun j x hx => ?_, fun j hj => ?_⟩
  · by_cases hji : i = j
    · subst hji
      rcases Nat.lt_or_ge i e.length with h | h
      · rw [List.getElem?_set_self h] at hx
        cases hx
      · rw [List.getElem?_eq_none (by rw [List.length_set]; exact h)] at hx
        cases hx
    · rw [List.getElem?_set_ne hji] at hx
      obtain ⟨y, ey, h2⟩ := s.sl j x hx
      exact ⟨y, by rw [List.getElem?_set_ne hji]; exact ey, h2⟩
  · by_cases hji : i = j
    · subst hji
      exact s.on i hi
    · refine s.on j fun x hx => hj x ?_
      rw [List.getElem?_set_ne hji]
      exact hx
theorem SR.wipe : ∀ {vs : List Nat} {e' : En}, SR G Z ρ O e m σ H → e.wipe vs = some e' → SR G Z ρ O e' m (L2.wipe σ vs) H
  | [], e', s, h => by
    cases h
    exact s
  | v :: vs, e', s, h => by
    rw [En.wipe] at h
    obtain ⟨e1, h1, h2⟩ := Option.bind_eq_some_iff.mp h
    have s1 := SR.wipe s h1
    rw [L2.wipe]
    split at h2
    · rename_i q
      cases h2
      exact s1.wipe1 fun x hx => by rw [q] at hx; cases hx
    · rename_i d q
      cases h2
      exact s1.wipe1 fun x hx => by
        rw [q] at hx
        cases hx
        exact ⟨_, rfl⟩
    · cases h2
end

/-! ### calls: from the caller's state to the callee's and back -/
section
variable {G : Gl} {Z : Addr → Prop} {ρ ρ' : List Addr} {O : Nat → Option Addr} {e : En} {m m' : M} {σ : L2.St} {H H' : Hp}
def Zc (Z : Addr → Prop) (O : Nat → Option Addr) (a : Addr) : Prop := Z a ∨ ∃ i, O i = some a
theorem wr_zc : Wr (Zc Z O) ρ noO = Wr Z ρ O := funext fun a => propext (Iff.intro (fun h => by
  rcases h with (h | h) | h | ⟨_, h⟩
  · exact .inl h
  · exact .inr (.inr h)
  · exact .inr (.inl h)
  · cases h) (fun h => by
  rcases h with h | h | h
  · exact .inl (.inl h)
  · exact .inr (.inl h)
  · exact .inl (.inr h)))
theorem MR.zc (s : SR G Z ρ O e m σ H) : MR G (Zc Z O) ρ noO m H := ⟨s.mr.tb, fun a h => h.elim (s.mr.zt a) fun ⟨i, h⟩ => s.ot i a h, fun a h k => k.elim (s.mr.zr a h) fun ⟨i, k⟩ => (s.oz i a k).2 h, s.mr.nd, s.mr.len, fun n xs h => by
  rw [wr_zc]
  exact s.mr.mem n xs h⟩
theorem Stp.call (s : SR G Z ρ O e m σ H) (f : StpF G (Zc Z O) ρ H ρ' m' H') : Stp G Z O e σ ρ H ρ' m' H' := by
  have w : ∀ a, Wr Z ρ' O a → Wr Z ρ O a ∨ ¬ Lv H a := fun a h => by
    rcases h with h | h | h
    · exact .inl (.inl h)
    · exact (f.new a h).imp (fun z => .inr (.inl z)) id
    · exact .inl (.inr (.inr h))
  have kp : Rf.Kp (Wr Z ρ O) H H' := fun a o h n nt => f.kp a o h (fun z => n (.inr (.inl z))) nt
  have mr' := f.mr
  refine ⟨⟨⟨mr'.tb, fun a h => mr'.zt a (.inl h), fun a h k => mr'.zr a h (.inl k), mr'.nd, mr'.len, fun n xs h => ?_⟩, s.len, s.oi, fun i a h => ⟨(s.oz i a h).1, fun k => mr'.zr a k (.inr ⟨i, h⟩)⟩, fun i a h => f.dm a (s.ot i a h), fun i x h => ?_, s.on⟩, f.kp, f.dm, f.pre, f.new⟩
  · have q := mr'.mem n xs h
    rw [wr_zc] at q
    exact q
  · obtain ⟨y, ey, h2⟩ := s.sl i x h
    refine ⟨y, ey, ?_⟩
    cases x with
    | val d =>
      obtain ⟨h3, v, e1, r⟩ := h2
      exact ⟨h3, v, e1, Rep.mono kp w f.pre _ _ r⟩
    | own d =>
      obtain ⟨a, vs, h3, e1, h4, z, r⟩ := h2
      exact ⟨a, vs, h3, e1, f.kp _ _ h4 (s.oz i a h3).2 nt_lst, z, Reps.mono kp w f.pre _ _ r⟩
    | lock d =>
      obtain ⟨a, vs, h3, e1, h4, z, r⟩ := h2
      exact ⟨a, vs, h3, e1, f.kp _ _ h4 (s.oz i a h3).2 nt_lst, z, Reps.mono kp w f.pre _ _ r⟩
end
end Rf

/-! RCall: calls of defs, by name and by value; calls of built-ins. -/
namespace Rf
open PySem (Str Addr Value Pos Expr Stmt Scope Program World Heap Shared CmpOp Operator UnaryOp)
open L2 (V Hp HO SqL SqT Rd upd upd_same upd_ne VK XK TE TT TA TS TG TI WX Cx Ends OpR R2 rI rI0 PE PT PW PA PS PSs PG PI)

section
variable {C : Cfg} {G : Gl} {Wx : WX} {tas : TA} {As : Es} {n ar : Nat}
theorem callF {Z : Addr → Prop} {ρ ρ' : List Addr} {O : Nat → Option Addr} {e : En} {m m' : M} {σ : L2.St} {H H' : Hp} {Q : VK} {ds : List D} {vs : List V} (s : SR G Z ρ O e m σ H) (st : Stp G Z O e σ ρ H ρ' m' H') (p : Reps G H' (Wr Z ρ' O) ρ' ds vs) (hl : ds.length = ar)
    (q : KE G Wx .rep Z O e σ ρ H Q (C.cf n ds m')) : spF C.cf G n ar vs H' Q (L2.WE Wx σ) := by
  refine ⟨by rw [← p.len]; exact hl, Zc Z O, ρ', ds, m', MR.zc st.sr, by rw [wr_zc]; exact p, ?_⟩
  cases rc : C.cf n ds m' with
  | bad => rw [rc] at q; exact q
  | exc c m2 =>
    rw [rc] at q
    exact fun cls dx ρ2 H2 f er => q cls dx ρ2 H2 (st.trans s (.call st.sr f)) er
  | ok d m2 =>
    rw [rc] at q
    intro v ρ2 H2 f r
    rw [wr_zc] at r
    exact q v ρ2 H2 H2 (st.trans s (.call st.sr f)) keep_refl r
theorem snd_call (ha : SndA C G Wx tas As) : Snd C G Wx .rep (L2.tCallS (spF C.cf G n As.len) (L2.WE Wx) tas) (.call n As) := by
  intro Z ρ O e m σ H Q s q
  rw [E.ev] at q
  refine ha Z ρ O e m σ H _ s ?_
  cases ra : As.ev C.cf e m with
  | bad => rw [ra] at q; exact q
  | exc c m' => rw [ra] at q; exact q
  | ok ds m' =>
    rw [ra] at q
    intro vs ρ' H' st p
    exact callF s st p (Es.ev_len As e m ds m' ra) q
/-- the slot's def -/
def tCallVS (i : Nat) (S : Addr → L2.Sp → Prop) (E : L2.St → XK) (t : TA) : TE := fun σ H Q => ∃ f sp, σ[i]? = some (some (.ref f)) ∧ S f sp ∧ t σ H fun vs H1 => sp vs H1 Q (E σ)
def SpV (C : Cfg) (G : Gl) (ar : Nat) (f : Addr) (sp : L2.Sp) : Prop := ∃ n x, C.ids n = true ∧ C.nm.fn n = some x ∧ G.mg x = some (.ref f) ∧ sp = spF C.cf G n ar
theorem snd_callv {i : Nat} (ha : SndA C G Wx tas As) (hG : G.nm = C.nm) (hi : G.ids = C.ids) : Snd C G Wx .rep (tCallVS i (SpV C G As.len) (L2.WE Wx) tas) (.callv (.var i) As) := by
  intro Z ρ O e m σ H Q s q
  rw [E.ev, E.ev] at q
  cases hv : e.val i with
  | none => simp only [hv, R.bind] at q; exact q.elim
  | some d =>
    simp only [hv, R.bind] at q
    unfold En.val at hv
    split at hv
    · rename_i d' he
      cases hv
      obtain ⟨x, e1, h2⟩ := s.sl i _ he
      obtain ⟨_, v, e2, r⟩ := h2
      subst e2
      cases d with
      | fn n =>
        rw [Rep] at r
        obtain ⟨x, a, h1, h2, h3, rfl⟩ := r
        refine ⟨a, spF C.cf G n As.len, e1, ⟨n, x, by rw [← hi]; exact h1, by rw [← hG]; exact h2, h3, rfl⟩, ?_⟩
        refine ha Z ρ O e m σ H _ s ?_
        cases ra : As.ev C.cf e m with
        | bad => rw [ra] at q; exact q
        | exc c m' => rw [ra] at q; exact q
        | ok ds m' =>
          rw [ra] at q
          intro vs ρ' H' st p
          exact callF s st p (Es.ev_len As e m ds m' ra) q
      | _ => exact q.elim
    · cases hv
/-- the slot holds a def: the call -/
theorem pe_callVS {X : Cx} {CX : L2.CXT} {k i : Nat} {S : Addr → L2.Sp → Prop} {E : L2.St → XK} {x : Str} {p pos : Pos} {a : Expr} {es : List Expr} {t : TA}
    (A : ∀ f sp, S f sp → ∃ fd ps, L2.FnOk X.prog X.w X.K X.mg X.base CX k f fd ps sp ∧ PySem.W.keepIn X.K (.ref f) = true ∧ L2.Binds X.K fd ps []) (hr : L2.Room k X.A) (hN : X.N[i]? = some x) (hv : L2.Vis X.env.scope x) (hx : ∀ σ, L2.PassesAt CX X σ (E σ)) (ha : PA X (a :: es) t)
    (hdb : (x == ("__debug__" : Str)) = false := by decide) (hcd : (x == ("__classdict__" : Str)) = false := by decide)
    (he : PySem.starEach (a :: es) X.env = (false, PySem.eval a X.env) :: PySem.starEach es X.env := by rfl) (hpl : (PySem.backTo pos (PySem.starEach es X.env)).any (·.1) = false := by rfl) : PE X (.Call (.Name x p) (a :: es) [] pos) (tCallVS i S E t) := by
  refine ⟨fun pins s σ H Q I h => ?_⟩
  obtain ⟨f, sp, hs, hS, ht⟩ := h
  obtain ⟨fd, ps, F, hk, hb⟩ := A f sp hS
  refine PySem.wpAny_Call_Name_kw (L2.thn ((L2.pe_var (pos := p) hN hv hdb hcd).run pins s σ H (fun v H1 => v = .ref f ∧ H1 = H) I ⟨.ref f, hs, rfl, rfl⟩) fun u s1 ⟨v, H1, I1, r1, q1⟩ => ?_)
  obtain ⟨rfl, rfl⟩ := q1
  cases r1
  refine PySem.W.callWith_K (h₀ := X.base) I.ok.mod.kin hk (L2.thn (ha.run pos pins s1 σ _ _ I1 ht) fun us s2 ⟨vs, H2, I2, r, q⟩ => ⟨I2.kIn, ?_⟩) he hpl
  exact L2.run_fnS F hr hb (hx σ) I2 r q
theorem pe_callS0 {X : Cx} {CX : L2.CXT} {k : Nat} {f : Addr} {fd : PySem.FuncData} {ps : List Str} {sp : L2.Sp} {E : L2.St → XK} {x : Str} {p pos : Pos} (F : L2.FnOk X.prog X.w X.K X.mg X.base CX k f fd ps sp) (hr : L2.Room k X.A) (hg : L2.Gl X x) (hm : X.mg x = some (.ref f)) (hk : PySem.W.keepIn X.K (.ref f) = true) (hb : L2.Binds X.K fd ps []) (hx : ∀ σ, L2.PassesAt CX X σ (E σ))
    (hdb : (x == ("__debug__" : Str)) = false := by decide) : PE X (.Call (.Name x p) [] [] pos) (L2.tCallS sp E L2.tNil) := by
  refine ⟨fun pins s σ H Q I h => ?_⟩
  refine PySem.wpAny_Call_Name_kw (L2.ld_glob I hg hm ?_ hdb)
  exact PySem.W.callWith_K0 I.kIn hk (L2.run_fnS (us := []) F hr hb (hx σ) I .nil h)
end

/-! ### the joined rules -/
section
variable {g : Gm} {sc : Scope} {Wx : WX} {k : Kd} {a b c e : Expr} {es : List Expr} {A B A' : E} {As : Es} {X : Cx} {pos p p2 p3 : Pos} {x : Str} {i j n : Nat}
theorem spF_ar {cf : CF} {G : Gl} {ar l : Nat} (hb : ∀ ds m, ds.length ≠ l → cf n ds m = .bad) {vs : List V} {H : Hp} {Q : VK} {E : XK} (h : spF cf G n ar vs H Q E) : spF cf G n l vs H Q E := by
  obtain ⟨h1, Z, ρ, ds, m, h2, h3, h4⟩ := h
  by_cases hl : ds.length = l
  · exact ⟨by rw [← h3.len]; exact hl, Z, ρ, ds, m, h2, h3, h4⟩
  · rw [hb ds m hl] at h4
    exact h4.elim
theorem CallOk.at (c : CallOk g n x) (ar : Nat) : ∃ f fd ps, g.mg x = some (.ref f) ∧ PySem.W.keepIn g.K (.ref f) = true ∧ L2.Binds g.K fd ps [] ∧ L2.FnOk g.P g.w g.K g.mg g.base (L2N.CX g.P g.w) (3 * g.k) f fd ps (spF g.C.cf g.G n ar) := by
  obtain ⟨f, fd, ps, h1, h2, h3, h4, h5⟩ := c.ex
  exact ⟨f, fd, ps, h1, h2, h3, h4.imp fun vs H Q E q => spF_ar h5 q⟩
theorem se_call (hi : g.C.ids n = true ∧ g.C.nm.fn n = some x) (hg : sc.names.lookup x = some .globalImplicit) (ha : SA g sc Wx (a :: es) As) (hdb : (x == ("__debug__" : Str)) = false := by decide)
    (he : ∀ env : PySem.Env, PySem.starEach (a :: es) env = (false, PySem.eval a env) :: PySem.starEach es env := by intro _; rfl) (hpl : ∀ env : PySem.Env, (PySem.backTo pos (PySem.starEach es env)).any (·.1) = false := by intro _; rfl) : SE g sc Wx .rep (.Call (.Name x p) (a :: es) [] pos) (.call n As) := by
  obtain ⟨ta, pa, qa⟩ := ha
  refine ⟨_, fun X o => ?_, snd_call qa⟩
  obtain ⟨f, fd, ps, h1, h2, h3, h4⟩ := (o.calls n x hi.1 hi.2).at As.len
  have h4' : L2.FnOk X.prog X.w X.K X.mg X.base (L2N.CX X.prog X.w) (3 * g.k) f fd ps (spF g.C.cf g.G n As.len) := by
    rw [o.pr, o.w, o.K, o.mg, o.bs]
    exact h4
  exact L2.pe_callS h4' o.room (o.gl hg) (by rw [o.mg]; exact h1) (by rw [o.K]; exact h2) (by rw [o.K]; exact h3) (fun σ => L2N.passAt o.tk σ) (pa X o) hdb (he _) (hpl _)
theorem se_call0 (hi : g.C.ids n = true ∧ g.C.nm.fn n = some x) (hg : sc.names.lookup x = some .globalImplicit) (hdb : (x == ("__debug__" : Str)) = false := by decide) : SE g sc Wx .rep (.Call (.Name x p) [] [] pos) (.call n .nil) := by
  refine ⟨_, fun X o => ?_, snd_call sndA_nil⟩
  obtain ⟨f, fd, ps, h1, h2, h3, h4⟩ := (o.calls n x hi.1 hi.2).at Es.nil.len
  have h4' : L2.FnOk X.prog X.w X.K X.mg X.base (L2N.CX X.prog X.w) (3 * g.k) f fd ps (spF g.C.cf g.G n Es.nil.len) := by
    rw [o.pr, o.w, o.K, o.mg, o.bs]
    exact h4
  exact pe_callS0 h4' o.room (o.gl hg) (by rw [o.mg]; exact h1) (by rw [o.K]; exact h2) (by rw [o.K]; exact h3) (fun σ => L2N.passAt o.tk σ) hdb
theorem se_callv (hN : g.N[i]? = some x) (hv : vis sc x = true) (ha : SA g sc Wx (a :: es) As) (hdb : (x == ("__debug__" : Str)) = false := by decide) (hcd : (x == ("__classdict__" : Str)) = false := by decide)
    (he : ∀ env : PySem.Env, PySem.starEach (a :: es) env = (false, PySem.eval a env) :: PySem.starEach es env := by intro _; rfl) (hpl : ∀ env : PySem.Env, (PySem.backTo pos (PySem.starEach es env)).any (·.1) = false := by intro _; rfl) : SE g sc Wx .rep (.Call (.Name x p) (a :: es) [] pos) (.callv (.var i) As) := by
  obtain ⟨ta, pa, qa⟩ := ha
  refine ⟨_, fun X o => ?_, snd_callv qa rfl rfl⟩
  refine pe_callVS (CX := L2N.CX X.prog X.w) (k := 3 * g.k) (fun f sp hS => ?_) o.room (by rw [o.N]; exact hN) (o.vis hv) (fun σ => L2N.passAt o.tk σ) (pa X o) hdb hcd (he _) (hpl _)
  obtain ⟨n, y, h1, h2, h3, rfl⟩ := hS
  obtain ⟨f', fd, ps, k1, k2, k3, k4⟩ := (o.calls n y h1 h2).at As.len
  have e : g.mg y = some (.ref f) := h3
  rw [k1] at e
  cases e
  refine ⟨fd, ps, ?_, by rw [o.K]; exact k2, by rw [o.K]; exact k3⟩
  rw [o.pr, o.w, o.K, o.mg, o.bs]
  exact k4

/-! ### built-ins -/
theorem se_cT1 {T : String} {o : Op} {r : RL} (hc : ∀ X, Ok g sc Wx X → L2.CallR X (.type T) r) (ho : OpC1 k g.G r o) (hx : isBlt g sc x (.type T)) (ha : SE g sc Wx .bor a A) (hs : ∀ env : PySem.Env, PySem.starEach [a] env = [(false, PySem.eval a env)] := by intro _; rfl) :
    SE g sc Wx k (.Call (.Name x p) [a] [] pos) (.op o (.cons A .nil)) := by
  obtain ⟨ta, pa, qa⟩ := ha
  exact ⟨_, fun X ok => L2.pe_callTy (hc X ok) (ok.gl hx.1) (ok.mgn hx.2.1) hx.2.2.1 (pa_any1 (pa X ok) (hs _)) hx.2.2.2.1 hx.2.2.2.2 (hs _) rfl, snd_c1 ho qa⟩
section
variable (hs : ∀ env : PySem.Env, PySem.starEach [a] env = [(false, PySem.eval a env)])
theorem se_len (hx : isBlt g sc x (.builtin "len")) (ha : SE g sc Wx .bor a A) (hs : ∀ env : PySem.Env, PySem.starEach [a] env = [(false, PySem.eval a env)] := by intro _; rfl) : SE g sc Wx .rep (.Call (.Name x p) [a] [] pos) (.op .len (.cons A .nil)) := se_cB1 (r := rLenA g.K) (fun X o => o.K ▸ c_len) o_len hx ha hs
theorem se_sum (hx : isBlt g sc x (.builtin "sum")) (ha : SE g sc Wx .bor a A) (hs : ∀ env : PySem.Env, PySem.starEach [a] env = [(false, PySem.eval a env)] := by intro _; rfl) : SE g sc Wx .rep (.Call (.Name x p) [a] [] pos) (.op .sum (.cons A .nil)) := se_cB1 (r := L2.rSum g.K) (fun X o => o.K ▸ L2.cr_sum o.calm) o_sum hx ha hs
theorem se_all (hx : isBlt g sc x (.builtin "all")) (ha : SE g sc Wx .bor a A) (hs : ∀ env : PySem.Env, PySem.starEach [a] env = [(false, PySem.eval a env)] := by intro _; rfl) : SE g sc Wx .rep (.Call (.Name x p) [a] [] pos) (.op .all (.cons A .nil)) := se_cB1 (r := L2.rAll g.K) (fun X o => o.K ▸ L2.cr_all o.calm) o_all hx ha hs
theorem se_minL (hx : isBlt g sc x (.builtin "min")) (ha : SE g sc Wx .bor a A) (hs : ∀ env : PySem.Env, PySem.starEach [a] env = [(false, PySem.eval a env)] := by intro _; rfl) : SE g sc Wx .rep (.Call (.Name x p) [a] [] pos) (.op .minL (.cons A .nil)) := se_cB1 (r := L2.rMin g.K) (fun X o => o.K ▸ L2.cr_min o.calm) o_minL hx ha hs
theorem se_maxL (hx : isBlt g sc x (.builtin "max")) (ha : SE g sc Wx .bor a A) (hs : ∀ env : PySem.Env, PySem.starEach [a] env = [(false, PySem.eval a env)] := by intro _; rfl) : SE g sc Wx .rep (.Call (.Name x p) [a] [] pos) (.op .maxL (.cons A .nil)) := se_cB1 (r := L2.rMax g.K) (fun X o => o.K ▸ L2.cr_max o.calm) o_maxL hx ha hs
theorem se_list (hx : isBlt g sc x (.type "list")) (ha : SE g sc Wx .bor a A) (hs : ∀ env : PySem.Env, PySem.starEach [a] env = [(false, PySem.eval a env)] := by intro _; rfl) : SE g sc Wx .fre (.Call (.Name x p) [a] [] pos) (.op .list (.cons A .nil)) := se_cT1 (r := rListA g.K) (fun X o => o.K ▸ L2.call_list_of) o_list hx ha hs
theorem se_tuple (hx : isBlt g sc x (.type "tuple")) (ha : SE g sc Wx .bor a A) (hs : ∀ env : PySem.Env, PySem.starEach [a] env = [(false, PySem.eval a env)] := by intro _; rfl) : SE g sc Wx .rep (.Call (.Name x p) [a] [] pos) (.op .tuple (.cons A .nil)) := se_cT1 (r := rTupleA g.K) (fun X o => o.K ▸ L2.call_tuple_of) o_tuple hx ha hs
theorem se_bool (hx : isBlt g sc x (.type "bool")) (ha : SE g sc Wx .bor a A) (hs : ∀ env : PySem.Env, PySem.starEach [a] env = [(false, PySem.eval a env)] := by intro _; rfl) : SE g sc Wx .rep (.Call (.Name x p) [a] [] pos) (.op .bool (.cons A .nil)) := se_cT1 (fun X o => L2.call_bool1) o_bool hx ha hs
theorem se_min2 (hx : isBlt g sc x (.builtin "min")) (ha : SE g sc Wx .bor a A) (hb : SE g sc Wx .bor b B) (hs : ∀ env : PySem.Env, PySem.starEach [a, b] env = [(false, PySem.eval a env), (false, PySem.eval b env)] := by intro _; rfl) (hs2 : ∀ env : PySem.Env, PySem.starEach [b] env = [(false, PySem.eval b env)] := by intro _; rfl) :
    SE g sc Wx .rep (.Call (.Name x p) [a, b] [] pos) (.op .min2 (.cons A (.cons B .nil))) := se_cB2 (fun X o => L2.call_min2 o.calm) o_min2 hx ha hb hs hs2
theorem se_max2 (hx : isBlt g sc x (.builtin "max")) (ha : SE g sc Wx .bor a A) (hb : SE g sc Wx .bor b B) (hs : ∀ env : PySem.Env, PySem.starEach [a, b] env = [(false, PySem.eval a env), (false, PySem.eval b env)] := by intro _; rfl) (hs2 : ∀ env : PySem.Env, PySem.starEach [b] env = [(false, PySem.eval b env)] := by intro _; rfl) :
    SE g sc Wx .rep (.Call (.Name x p) [a, b] [] pos) (.op .max2 (.cons A (.cons B .nil))) := se_cB2 (fun X o => L2.call_max2 o.calm) o_max2 hx ha hb hs hs2
/-- sorted: the head text names it -/
theorem se_sorted (hc : ∀ X, Ok g sc Wx X → L2.CallR X (.builtin "sorted") (L2.rSorted g.K)) (hx : isBlt g sc x (.builtin "sorted")) (ha : SE g sc Wx .bor a A) (hs : ∀ env : PySem.Env, PySem.starEach [a] env = [(false, PySem.eval a env)] := by intro _; rfl) : SE g sc Wx .fre (.Call (.Name x p) [a] [] pos) (.op .sorted (.cons A .nil)) := se_cB1 (r := L2.rSorted g.K) hc o_sorted hx ha hs
/-- isinstance(x, T) -/
theorem rI2 {r : RL} {ta : TE} {v : V} {t : TE} (h : ∀ σ H Q, ta σ H (fun x H1 => r [x, v] H1 Q) → t σ H Q) : True := trivial
theorem se_isinst {y : Str} {T : Ty} (hx : isBlt g sc x (.builtin "isinstance")) (hy : isBlt g sc y (.type (tyName T))) (ha : SE g sc Wx .bor a A) (hs : ∀ env : PySem.Env, PySem.starEach [a, .Name y p3] env = [(false, PySem.eval a env), (false, PySem.eval (.Name y p3) env)] := by intro _; rfl) :
    SE g sc Wx .rep (.Call (.Name x p) [a, .Name y p3] [] pos) (.op (.isinst T) (.cons A .nil)) := by
  obtain ⟨ta, pa, qa⟩ := ha
  refine ⟨L2.tCB (L2.rIsi g.K) (L2.tCons ta (L2.tCons (L2.tC (.ty (tyName T))) L2.tNil)), fun X ok => ?_, ?_⟩
  · have h : L2.CallR X (.builtin "isinstance") (L2.rIsi g.K) := ok.K ▸ L2.call_isi
    refine L2.pe_callB h (ok.gl hx.1) (ok.mgn hx.2.1) hx.2.2.1 (L2.pa_cons (pa X ok) (pa_any1 (L2.pe_bltn (ok.gl hy.1) (ok.mgn hy.2.1) hy.2.2.1 rfl hy.2.2.2.1 hy.2.2.2.2) rfl) ?_) hx.2.2.2.1 hx.2.2.2.2 ?_ rfl
    · rw [hs]
      rfl
    · rw [hs]
      rfl
  · exact snd_op1 (r := fun x H Q => L2.rIsi g.K [x, .ty (tyName T)] H Q) (o_isinst T) qa
end
end
end Rf

/-! RFor: targets, and what a loop walks. -/
namespace Rf
open PySem (Str Addr Value Pos Expr Stmt Scope Program World Heap Shared CmpOp Operator UnaryOp Obj)
open L2 (V Hp HO SqL SqT Rd upd upd_same upd_ne VK XK TE TT TA TS TG TGs TI WX Cx Ends OpR R2 rI rI0 PE PT PW PA PS PSs PG PGs PI It Inv)

/-! ### int(x) -/
def rIntA : RL := fun xs H Q => ((∃ i, xs = [.int i] ∧ Q (.int i) H) ∨ ∃ k, xs = [.bl k] ∧ Q (.int (if k then 1 else 0)) H) ∨ ∃ a n, xs = [.str a] ∧ PySem.intText? a = some n ∧ a.length ≤ 640 ∧ Q (.int n) H
theorem CallR_or {X : Cx} {f : Value} {r r' : RL} (h : L2.CallR X f r) (h' : L2.CallR X f r') : L2.CallR X f (fun xs H Q => r xs H Q ∨ r' xs H Q) := by
  intro pins s σ H xs us Q I v q
  rcases q with q | q
  · exact h pins s σ H xs us Q I v q
  · exact h' pins s σ H xs us Q I v q
theorem c_intA {X : Cx} : L2.CallR X (.type "int") rIntA := CallR_or L2.call_int1 L2.call_int_str
theorem digit_ok : ∀ c : Nat, c < 58 → 48 ≤ c → PySem.intText? ⟨#[c]⟩ = some ((c : Int) - 48) := by decide +kernel
theorem o_int {G : Gl} : OpC1 .rep G rIntA .int := by
  intro Z ρ O m H d1 d v1 Q g h1 e k
  replace e : app_int [d1] = some d := e
  unfold app_int at e
  split at e <;> rename_i hx <;> first | (simp only [List.cons.injEq, and_true] at hx; subst hx) | cases e
  · cases e
    rw [h1.int]
    exact .inl (.inl ⟨_, rfl, k _ _ keep_refl (prep (rep_int _))⟩)
  · cases e
    rw [h1.bl]
    exact .inl (.inr ⟨_, rfl, k _ _ keep_refl (prep (rep_int _))⟩)
  · split at e <;> cases e
    rename_i hc
    rw [h1.str.1]
    exact .inr ⟨_, _, rfl, digit_ok _ (by omega) hc.1, by show 1 ≤ 640; decide, k _ _ keep_refl (prep (rep_int _))⟩
section
variable {g : Gm} {sc : Scope} {Wx : WX} {a : Expr} {A : E} {pos p : Pos} {x : Str}
theorem se_intc (hx : isBlt g sc x (.type "int")) (ha : SE g sc Wx .bor a A) (hs : ∀ env : PySem.Env, PySem.starEach [a] env = [(false, PySem.eval a env)] := by intro _; rfl) : SE g sc Wx .rep (.Call (.Name x p) [a] [] pos) (.op .int (.cons A .nil)) := se_cT1 (fun X o => c_intA) o_int hx ha hs
end

/-! ### targets -/
mutual
def T.slots : T → List Nat
  | .nm i => [i]
  | .tp ts => T.slotss ts
def T.slotss : List T → List Nat
  | [] => []
  | t :: ts => T.slots t ++ T.slotss ts
end
theorem wipe_set {σ : L2.St} {i : Nat} {x : Option V} : ∀ {vs : List Nat}, i ∈ vs → L2.wipe (σ.set i x) vs = L2.wipe σ vs
  | v :: vs, h => by
    rw [L2.wipe, L2.wipe]
    by_cases hi : i ∈ vs
    · rw [wipe_set hi]
    · have e : i = v := (List.mem_cons.mp h).resolve_right hi
      subst e
      have gen : ∀ {vs : List Nat} {σ : L2.St}, i ∉ vs → L2.wipe (σ.set i x) vs = (L2.wipe σ vs).set i x := by
        intro vs
        induction vs with
        | nil => intro σ _; rfl
        | cons w ws ih =>
          intro σ hn
          rw [L2.wipe, L2.wipe, ih (fun q => hn (List.mem_cons_of_mem _ q))]
          rw [List.set_comm _ _ (fun q => hn (by rw [q]; exact List.mem_cons_self))]
      rw [gen hi, List.set_set]
/-- what a store promises -/
def SndG (G : Gl) (gt : TG) (t : T) : Prop := ∀ (Z : Addr → Prop) (ρ : List Addr) (O : Nat → Option Addr) (e : En) (m : M) (σ : L2.St) (H : Hp) (d : D) (v : V) (e' : En) (Q : L2.St → Hp → Prop),
  SR G Z ρ O e m σ H → Rep G H (Wr Z ρ O) ρ d v → t.put d e = some e' →
  (∀ O' σ', OLe O' O → SR G Z ρ O' e' m σ' H → (∀ vs, (∀ i ∈ t.slots, i ∈ vs) → L2.wipe σ' vs = L2.wipe σ vs) → ((∀ i ∈ t.slots, O i = none) → O' = O) → Q σ' H) → gt v σ H Q
def SndGs (G : Gl) (gt : TGs) (ts : List T) : Prop := ∀ (Z : Addr → Prop) (ρ : List Addr) (O : Nat → Option Addr) (e : En) (m : M) (σ : L2.St) (H : Hp) (ds : List D) (vs : List V) (e' : En) (Q : L2.St → Hp → Prop),
  SR G Z ρ O e m σ H → Reps G H (Wr Z ρ O) ρ ds vs → T.puts ts ds e = some e' →
  (∀ O' σ', OLe O' O → SR G Z ρ O' e' m σ' H → (∀ vs, (∀ i ∈ T.slotss ts, i ∈ vs) → L2.wipe σ' vs = L2.wipe σ vs) → ((∀ i ∈ T.slotss ts, O i = none) → O' = O) → Q σ' H) → gt vs σ H Q
def SG (g : Gm) (sc : Scope) (Wx : WX) (tg : Expr) (t : T) : Prop := ∃ gt, (∀ X, Ok g sc Wx X → PG X tg gt) ∧ SndG g.G gt t
def SGs (g : Gm) (sc : Scope) (Wx : WX) (tg : List Expr) (t : List T) : Prop := ∃ gt, (∀ X, Ok g sc Wx X → PGs X tg gt) ∧ SndGs g.G gt t
section
variable {G : Gl} {g : Gm} {sc : Scope} {Wx : WX} {pos : Pos} {x : Str} {i : Nat} {tg : Expr} {tgs : List Expr} {t : T} {ts : List T}
theorem sndG_nm : SndG G (L2.gName i) (.nm i) := by
  intro Z ρ O e m σ H d v e' Q s r h k
  rw [T.put] at h
  split at h
  · rename_i hf
    cases h
    exact k _ _ dropO_le (s.put (En.free_lt hf) r) (fun vs hv => wipe_set (hv i (by rw [T.slots]; exact List.mem_singleton_self _))) fun hv => by
      have e0 := hv i (by rw [T.slots]; exact List.mem_singleton_self _)
      funext j
      unfold dropO
      split
      · rename_i q
        rw [q, e0]
      · rfl
  · cases h
/-- a name that may be stored -/
def locB (g : Gm) (sc : Scope) (x : Str) : Bool := match sc.names.lookup x with
  | some .local => true
  | some .cell => g.fnb x
  | _ => false
theorem sg_nm (hN : g.N[i]? = some x) (hl : locB g sc x = true) : SG g sc Wx (.Name x pos) (.nm i) := by
  refine ⟨_, fun X o => L2.pg_name (i := i) (by rw [o.N]; exact g.nd) (by rw [o.N]; exact hN) ?_ ?_, sndG_nm⟩
  · rw [o.sc]
    unfold locB at hl
    unfold L2.Loc
    split at hl <;> first | (rename_i q; simp [q]) | cases hl
  · rw [o.sc]
    unfold locB at hl
    split at hl
    · rename_i q
      exact .inr q
    · exact .inl (o.fn x hl)
    · cases hl
theorem sgs_nil : SGs g sc Wx [] [] := ⟨_, fun X o => L2.pgs_nil, by
  intro Z ρ O e m σ H ds vs e' Q s r h k
  cases ds with
  | nil =>
    rw [T.puts] at h
    cases h
    exact ⟨r.inv_nil, k O σ OLe.refl s (fun _ _ => rfl) fun _ => rfl⟩
  | cons d ds =>
    rw [T.puts] at h <;> first | cases h | (intros; contradiction)⟩
theorem sgs_cons (h1 : SG g sc Wx tg t) (h2 : SGs g sc Wx tgs ts) (hs : ∀ env : PySem.Env, (PySem.assignEach (tg :: tgs) env).map (·.2) = PySem.assign tg env :: (PySem.assignEach tgs env).map (·.2) := by intro _; rfl) : SGs g sc Wx (tg :: tgs) (t :: ts) := by
  obtain ⟨t1, p1, q1⟩ := h1
  obtain ⟨t2, p2, q2⟩ := h2
  refine ⟨_, fun X o => L2.pgs_cons (p1 X o) (p2 X o) (hs _), ?_⟩
  intro Z ρ O e m σ H ds vs e' Q s r h k
  cases ds with
  | nil => rw [T.puts] at h <;> first | cases h | (intros; contradiction)
  | cons d ds =>
    rw [T.puts] at h
    obtain ⟨e1, h1, h2⟩ := Option.bind_eq_some_iff.mp h
    obtain ⟨v, rs, rfl, r1, r2⟩ := r.inv_cons
    refine ⟨v, rs, rfl, q1 Z ρ O e m σ H d v e1 _ s r1 h1 fun O' σ' hO s' hw ho => ?_⟩
    refine q2 Z ρ O' e1 m σ' H ds rs e' Q s' (r2.shr hO.w) h2 fun O2 σ2 hO2 s2 hw2 ho2 => ?_
    refine k O2 σ2 (hO2.trans hO) s2 (fun vs hv => ?_) fun hv => by
      have e1 := ho fun i hi => hv i (by rw [T.slotss]; exact List.mem_append_left _ hi)
      subst e1
      exact ho2 fun i hi => hv i (by rw [T.slotss]; exact List.mem_append_right _ hi)
    rw [hw2 vs fun i hi => hv i (by rw [T.slotss]; exact List.mem_append_right _ hi), hw vs fun i hi => hv i (by rw [T.slotss]; exact List.mem_append_left _ hi)]
theorem puts_len : ∀ {ts : List T} {ds : List D} {e e' : En}, T.puts ts ds e = some e' → ds.length = ts.length
  | [], [], _, _, _ => rfl
  | [], _ :: _, _, _, h => by rw [T.puts] at h <;> first | cases h | (intros; contradiction)
  | _ :: _, [], _, _, h => by rw [T.puts] at h <;> first | cases h | (intros; contradiction)
  | t :: ts, d :: ds, e, e', h => by
    rw [T.puts] at h
    obtain ⟨e1, h1, h2⟩ := Option.bind_eq_some_iff.mp h
    rw [List.length_cons, List.length_cons, puts_len h2]
theorem sg_tp {k : Nat} {ts : List T} (h : SGs g sc Wx tgs ts) (hn : ∀ env : PySem.Env, (PySem.assignEach tgs env).length = ts.length := by intro _; rfl) (hst : ∀ env : PySem.Env, (PySem.assignEach tgs env).findIdx? (·.1) = none := by intro _; rfl) : SG g sc Wx (.Tuple tgs k pos) (.tp ts) := by
  obtain ⟨gt, p1, q1⟩ := h
  refine ⟨L2.gTup g.K ts.length gt, fun X o => ?_, ?_⟩
  · rw [← o.K]
    exact L2.pg_tup o.calm (p1 X o) (hn _) (hst _)
  · intro Z ρ O e m σ H d v e' Q s r h k
    cases d with
    | tup ds =>
      rw [Rep] at r
      obtain ⟨a, vs, e1, f, z, rs⟩ := r
      rw [T.put] at h
      replace h : T.puts ts ds e = some e' := h
      refine ⟨a, vs, e1, f.sq, by rw [← rs.len]; exact puts_len h, q1 Z ρ O e m σ H ds vs e' Q s rs h fun O' σ' hO s' hw ho => k O' σ' hO s' (fun vs hv => hw vs fun i hi => hv i (by rw [T.slots]; exact hi)) fun hv => ho fun i hi => hv i (by rw [T.slots]; exact hi)⟩
    | _ => rw [T.put] at h <;> first | cases h | (intros; contradiction)
end

/-! ### what is walked -/
/-- J walks ds: from the heap H1 on, as long as what S tells stays -/
structure Wk (G : Gl) (J : It) (ds : List D) (H1 : Hp) (S W1 : Addr → Prop) (ρ1 : List Addr) : Prop where
  go : ∀ i Hc W' ρc, (∀ a o, H1 a = some o → S a → NT o → Hc a = some o) → (∀ a, W' a → W1 a ∨ ¬ Lv H1 a) → ρ1 <+: ρc → (∀ a, W' a → Lv Hc a) → ∀ d, ds[i]? = some d →
    J.go i Hc ∧ ∀ x H', J.yld i Hc x H' → (∀ a u, Hc a = some u → H' a = some u) ∧ Rep G H' W' ρc d x
  stop : ∀ Hc, (∀ a o, H1 a = some o → S a → NT o → Hc a = some o) → J.stop ds.length Hc
  len : ds.length ≤ LIM
/-- what stays, by the kind of the value that is walked -/
def sK (k : Kd) (Z : Addr → Prop) (ρ : List Addr) (O : Nat → Option Addr) : Addr → Prop := match k with
  | .bor => fun a => a ∉ ρ
  | _ => fun a => ¬ Wr Z ρ O a
theorem sK_of {k : Kd} {Z : Addr → Prop} {ρ : List Addr} {O : Nat → Option Addr} : ∀ a, ¬ Wr Z ρ O a → sK k Z ρ O a := fun a n => by
  cases k with
  | rep => exact n
  | bor => exact fun z => n (.inr (.inl z))
  | fre => exact n
def KI (G : Gl) (Wx : WX) (k : Kd) (Z : Addr → Prop) (O : Nat → Option Addr) (e : En) (σ : L2.St) (ρ : List Addr) (H : Hp) (Rk : It → Hp → Prop) : R D → Prop
  | .ok d m' => match iter? d with
    | none => False
    | some ds => ∀ J ρ' H', Stp G Z O e σ ρ H ρ' m' H' → Wk G J ds H' (sK k Z ρ' O) (Wr Z ρ' O) ρ' → Rk J H'
  | .exc c m' => ∀ cls dx ρ' H', Stp G Z O e σ ρ H ρ' m' H' → ErrIs G c cls dx → Wx cls dx σ H'
  | .bad => False
def SndI (C : Cfg) (G : Gl) (Wx : WX) (k : Kd) (wi : TI) (A : E) : Prop := ∀ (Z : Addr → Prop) (ρ : List Addr) (O : Nat → Option Addr) (e : En) (m : M) (σ : L2.St) (H : Hp) (R : It → Hp → Prop),
  SR G Z ρ O e m σ H → KI G Wx k Z O e σ ρ H R (A.ev C.cf e m) → wi σ H R
def SI (g : Gm) (sc : Scope) (Wx : WX) (k : Kd) (tg it : Expr) (A : E) : Prop := ∃ wi, (∀ X, Ok g sc Wx X → PI X tg it wi) ∧ SndI g.C g.G Wx k wi A

section
variable {C : Cfg} {G : Gl} {g : Gm} {sc : Scope} {Wx : WX} {k : Kd} {tg it a b c : Expr} {A B A' : E} {X : Cx} {pos p p2 : Pos} {x : Str} {ta : TE} {tas : TA}
theorem KI.exc {Z : Addr → Prop} {ρ ρ' : List Addr} {O : Nat → Option Addr} {e : En} {m m' m2 : M} {σ : L2.St} {H H' : Hp} {c : Nat} {R : It → Hp → Prop} (s : SR G Z ρ O e m σ H) {k' : Kd} (q : KI G Wx k Z O e σ ρ H R (.exc c m2)) {Q' : VK} : KE G Wx k' Z O e σ ρ H Q' (.exc c m2) := q
/-- over a list, a tuple, a str: which of them tells the value -/
def iAny (K : PySem.W.Frag) (tl : TE) : TI := fun σ H R => tl σ H fun x H1 => (∃ a, x = .ref a ∧ (∃ xs, SqL K H1 a xs) ∧ R (L2.Itl K a) H1) ∨ (∃ a, x = .ref a ∧ (∃ xs, SqT K H1 a xs) ∧ R (L2.Itt K a) H1) ∨ ∃ y, x = .str y ∧ R (L2.Its y) H1
theorem pi_any {l : Expr} {tl : TE} (hl : PE X l tl) : PI X tg l (iAny X.K tl) := by
  refine ⟨fun pins s σ H R I h => ?_⟩
  refine L2.thn (hl.run pins s σ H _ I h) fun v s1 ⟨x, H1, I1, r1, q1⟩ => ?_
  rcases q1 with ⟨a, e, ⟨xs, hq⟩, q⟩ | ⟨a, e, ⟨xs, hq⟩, q⟩ | ⟨y, e, q⟩
  · subst e
    cases r1
    obtain ⟨its, rv, p, hz⟩ := I1.list hq
    refine PySem.wpAny_pyIter_list p.isList ?_
    exact L2.pi_one (tk := s1.toks) I1 _ (L2.turn_list a _) ⟨_, PySem.Heap.get?_push_size _ rfl, rfl, rfl⟩ q
  · subst e
    cases r1
    obtain ⟨its, rv, p, hz⟩ := I1.tuple hq
    refine PySem.wpAny_pyIter_tuple (show s1.heap.IsTuple a its.toArray from p) ?_
    exact L2.pi_one (tk := s1.toks) I1 _ (L2.turn_tuple a _) ⟨_, PySem.Heap.get?_push_size _ rfl, rfl, rfl⟩ q
  · subst e
    obtain ⟨t, rfl⟩ := r1
    cases ha : y.cps.all (· < 128)
    · exact PySem.wpAny_pyIter_wide ha (L2.pi_one (tk := s1.toks) I1 _ (L2.turn_str _ y t "str_iterator" (.inr rfl)) ⟨_, PySem.Heap.get?_push_size _ rfl, rfl, rfl⟩ q)
    · exact PySem.wpAny_pyIter_ascii ha (L2.pi_one (tk := s1.toks) I1 _ (L2.turn_str _ y t "str_ascii_iterator" (.inl rfl)) ⟨_, PySem.Heap.get?_push_size _ rfl, rfl, rfl⟩ q)
/-- a list that stays -/
theorem wk_list {K : PySem.W.Frag} {a : Addr} {ds : List D} {vs : List V} {H1 : Hp} {S W1 : Addr → Prop} {ρ1 : List Addr} (hz : ds.length ≤ LIM) (ha : H1 a = some (.lst vs)) (sa : S a) (r : Reps G H1 W1 ρ1 ds vs) (hS : ∀ a, ¬ W1 a → S a) : Wk G (L2.Itl K a) ds H1 S W1 ρ1 where
  go := fun i Hc W' ρc hk w pr hn d hd => by
    have hc := hk a _ ha sa nt_lst
    have kp : Kp W1 H1 Hc := fun b o h n nt => hk b o h (hS b n) nt
    obtain ⟨v, ev, rv⟩ := r.get hd
    refine ⟨⟨vs, v, SqL.of hc, ev⟩, fun x H' y => ?_⟩
    obtain ⟨rfl, y⟩ := y
    have e2 := y vs (SqL.of hc)
    rw [ev] at e2
    cases e2
    exact ⟨keep_refl, Rep.mono kp w pr _ _ rv⟩
  stop := fun Hc hk => ⟨vs, SqL.of (hk a _ ha sa nt_lst), by rw [r.len] <;> exact Nat.le_refl _⟩
  len := hz
theorem FzT.kept {K : PySem.W.Frag} {a : Addr} {vs : List V} {H1 Hc : Hp} {S W1 : Addr → Prop} (f : FzT K H1 W1 a vs) (hS : ∀ a, ¬ W1 a → S a) (hk : ∀ a o, H1 a = some o → S a → NT o → Hc a = some o) : SqT K Hc a vs := by
  rcases f with ⟨f | ⟨o, f⟩, n⟩ | f
  · exact .inl (.inl (hk _ _ f (hS _ n) nt_tup))
  · exact .inl (.inr ⟨o, hk _ _ f (hS _ n) nt_frz⟩)
  · exact .inr f
theorem snd_anyK (hk : k = .rep ∨ k = .bor) (ha : Snd C G Wx k ta A) : SndI C G Wx k (iAny G.K ta) A := by
  intro Z ρ O e m σ H Rk s q
  refine ha Z ρ O e m σ H _ s ?_
  cases ra : A.ev C.cf e m with
  | bad => rw [ra] at q; exact q
  | exc c m' => rw [ra] at q; exact q
  | ok d m' =>
    rw [ra] at q
    intro v ρ' H1' H' st1' hk1' p
    have st := st1'.trans s (.keep st1'.sr hk1')
    have rb := p.repB
    have nS : ∀ a, ¬ Wr Z ρ' O a → sK k Z ρ' O a := sK_of
    replace q : KI G Wx k Z O e σ ρ H Rk (.ok d m') := q
    unfold KI at q
    cases d with
    | lst ds =>
      have hl : ∃ a vs, v = .ref a ∧ H' a = some (.lst vs) ∧ sK k Z ρ' O a ∧ ds.length ≤ LIM ∧ Reps G H' (Wr Z ρ' O) ρ' ds vs := by
        rcases hk with rfl | rfl
        · have p' : Rep G H' (Wr Z ρ' O) ρ' (.lst ds) v := p
          rw [Rep] at p'
          obtain ⟨a, vs, e1, f, z, r⟩ := p'
          exact ⟨a, vs, e1, f.1, f.2, z, r⟩
        · have p' : RepB G H' (Wr Z ρ' O) ρ' (.lst ds) v := p
          rcases p' with p' | ⟨a, vs, ds', e1, e2, h1, n, z, r⟩
          · rw [Rep] at p'
            obtain ⟨a, vs, e1, f, z, r⟩ := p'
            exact ⟨a, vs, e1, f.1, fun q => f.2 (.inr (.inl q)), z, r⟩
          · cases e1
            exact ⟨a, vs, e2, h1, n, z, r⟩
      obtain ⟨a, vs, e1, h1, sa, hz, r⟩ := hl
      exact .inl ⟨a, e1, ⟨vs, SqL.of h1⟩, q _ ρ' H' st (wk_list hz h1 sa r nS)⟩
    | tup ds =>
      obtain ⟨a, vs, e1, f, z, r⟩ := rb.tup
      refine .inr (.inl ⟨a, e1, ⟨vs, f.sq⟩, q _ ρ' H' st ⟨fun i Hc W' ρc hkc w pr hn d hd => ?_, fun Hc hkc => ?_, z⟩⟩)
      · have hc := f.kept nS hkc
        have kp : Kp (Wr Z ρ' O) H' Hc := fun b o h n nt => hkc b o h (nS b n) nt
        obtain ⟨v, ev, rv⟩ := r.get hd
        refine ⟨⟨vs, v, hc, ev⟩, fun x H2 y => ?_⟩
        obtain ⟨rfl, y⟩ := y
        have e2 := y vs hc
        rw [ev] at e2
        cases e2
        exact ⟨keep_refl, Rep.mono kp w pr _ _ rv⟩
      · exact ⟨vs, f.kept nS hkc, by rw [r.len] <;> exact Nat.le_refl _⟩
    | str y =>
      obtain ⟨e1, so⟩ := rb.str
      refine .inr (.inr ⟨_, e1, q _ ρ' H' st ⟨fun i Hc W' ρc hkc w pr hn d hd => ?_, fun Hc hkc => ?_, by rw [List.length_map]; exact so.1⟩⟩)
      · rw [List.getElem?_map] at hd
        obtain ⟨c, hc, hd⟩ := Option.map_eq_some_iff.mp hd
        subst hd
        have hi := (List.getElem?_eq_some_iff.mp hc).1
        refine ⟨by show i < y.toArray.size; simpa using hi, fun x H2 yy => ?_⟩
        obtain ⟨rfl, c', hc', rfl⟩ := yy
        have e3 : y.toArray[i]? = some c := by simpa using hc
        have e4 : y.toArray[i]? = some c' := hc'
        rw [e3] at e4
        cases e4
        exact ⟨keep_refl, rep_str (s := [c]) ⟨show 1 ≤ LIM by decide, fun z hz => by
          rw [List.mem_singleton] at hz
          subst hz
          exact so.2 _ (List.mem_of_getElem? hc)⟩⟩
      · show y.toArray.size ≤ (y.map _).length
        simp
    | _ => exact q.elim
theorem si_any (hk : k = .rep ∨ k = .bor) (ha : SE g sc Wx k it A) : SI g sc Wx k tg it A := by
  obtain ⟨t, p, q⟩ := ha
  exact ⟨_, fun X o => by
    have h := pi_any (tg := tg) (p X o)
    rw [o.K] at h
    exact h, snd_anyK hk q⟩
theorem si_rep (ha : SE g sc Wx .rep it A) : SI g sc Wx .rep tg it A := si_any (.inl rfl) ha
theorem si_bor (ha : SE g sc Wx .bor it A) : SI g sc Wx .bor tg it A := si_any (.inr rfl) ha
theorem SI.bor (h : SI g sc Wx .rep tg it A) : SI g sc Wx .bor tg it A := by
  obtain ⟨wi, p, q⟩ := h
  refine ⟨wi, p, fun Z ρ O e m σ H Rk s h => q Z ρ O e m σ H Rk s ?_⟩
  cases ra : A.ev g.C.cf e m with
  | bad => rw [ra] at h; exact h
  | exc c m' => rw [ra] at h; exact h
  | ok d m' =>
    rw [ra] at h
    unfold KI at h ⊢
    cases hi : iter? d with
    | none => simp only [hi] at h
    | some ds =>
      simp only [hi] at h ⊢
      intro J ρ' H' st wk
      exact h J ρ' H' st ⟨fun i Hc W' ρc hk => wk.go i Hc W' ρc fun a o h n nt => hk a o h (fun z => n (.inr (.inl z))) nt, fun Hc hk => wk.stop Hc fun a o h n nt => hk a o h (fun z => n (.inr (.inl z))) nt, wk.len⟩

/-! ### ranges -/
theorem wk_range {lo : Int} {n : Nat} {H1 : Hp} {S W1 : Addr → Prop} {ρ1 : List Addr} (hz : n ≤ LIM) : Wk G (L2.Itr lo n) (rangeL lo n 1) H1 S W1 ρ1 where
  go := fun i Hc W' ρc hk w pr hn d hd => by
    unfold rangeL at hd
    rw [List.getElem?_map] at hd
    obtain ⟨j, hj, hd⟩ := Option.map_eq_some_iff.mp hd
    obtain ⟨hl, hj⟩ := List.getElem?_eq_some_iff.mp hj
    rw [List.length_range] at hl
    rw [List.getElem_range] at hj
    subst hj hd
    refine ⟨hl, fun x H' y => ?_⟩
    obtain ⟨rfl, rfl⟩ := y
    rw [Int.mul_one]
    exact ⟨keep_refl, rep_int _⟩
  stop := fun Hc hk => by
    show n ≤ (rangeL lo n 1).length
    unfold rangeL
    simp
  len := by
    unfold rangeL
    simpa using hz
theorem wk_rangeD {lo : Int} {n : Nat} {H1 : Hp} {S W1 : Addr → Prop} {ρ1 : List Addr} (hz : n ≤ LIM) : Wk G (L2.Itc lo (-1) n) (rangeL lo n (-1)) H1 S W1 ρ1 where
  go := fun i Hc W' ρc hk w pr hn d hd => by
    unfold rangeL at hd
    rw [List.getElem?_map] at hd
    obtain ⟨j, hj, hd⟩ := Option.map_eq_some_iff.mp hd
    obtain ⟨hl, hj⟩ := List.getElem?_eq_some_iff.mp hj
    rw [List.length_range] at hl
    rw [List.getElem_range] at hj
    subst hj hd
    refine ⟨hl, fun x H' y => ?_⟩
    obtain ⟨rfl, rfl⟩ := y
    exact ⟨keep_refl, rep_int _⟩
  stop := fun Hc hk => by
    show n ≤ (rangeL lo n (-1)).length
    unfold rangeL
    simp
  len := by
    unfold rangeL
    simpa using hz
theorem small62_62 {j : Int} (h : small62 j = true) : -(2 ^ 62) ≤ j ∧ j < 2 ^ 62 := by
  have b := small62_ok h
  have e2 : (2 : Int) ^ 62 = 4611686018427387904 := by decide
  rw [e2]
  omega
theorem snd_range1 (ha : Snd C G Wx .bor ta A) : SndI C G Wx k (L2.iRng1 (L2.tCons ta L2.tNil)) (.op .range1 (.cons A .nil)) := by
  intro Z ρ O e m σ H Rk s q
  rw [ev_op1] at q
  refine ha Z ρ O e m σ H _ s ?_
  cases ra : A.ev C.cf e m with
  | bad => rw [ra] at q; exact q
  | exc c m' => rw [ra] at q; exact q
  | ok d m' =>
    rw [ra] at q
    intro v ρ' H1' H' st1' hk1' p
    have st := st1'.trans s (.keep st1'.sr hk1')
    replace q : KI G Wx k Z O e σ ρ H Rk (appR .range1 [d] m') := q
    unfold appR at q
    cases d with
    | int j =>
      have ev := p.repB.int
      subst ev
      cases hz : (small62 j && decide (j.toNat ≤ LIM)) with
      | false =>
        have e1 : Op.range1.app [.int j] m' = none := by
          show (if small62 j && decide (j.toNat ≤ LIM) then _ else none) = none
          rw [hz] <;> rfl
        rw [e1] at q
        exact q.elim
      | true =>
        have e1 : Op.range1.app [.int j] m' = some (.lst (rangeL 0 j.toNat 1)) := by
          show (if small62 j && decide (j.toNat ≤ LIM) then _ else none) = _
          rw [hz] <;> rfl
        rw [e1] at q
        rw [Bool.and_eq_true, decide_eq_true_eq] at hz
        obtain ⟨b1, b2⟩ := small62_62 hz.1
        exact ⟨j, rfl, b1, b2, q _ ρ' H' st (wk_range hz.2)⟩
    | _ => exact q.elim
theorem snd_range2 {tb : TE} (ha : Snd C G Wx .bor ta A) (hb : Snd C G Wx .bor tb B) : SndI C G Wx k (L2.iRng2 (L2.tCons ta (L2.tCons tb L2.tNil))) (.op .range2 (.cons A (.cons B .nil))) := by
  intro Z ρ O e m σ H Rk s q
  rw [ev_op2] at q
  refine ha Z ρ O e m σ H _ s ?_
  cases ra : A.ev C.cf e m with
  | bad => rw [ra] at q; exact q
  | exc c m' => rw [ra] at q; exact q
  | ok d m' =>
    rw [ra] at q
    intro v ρ' H1' H' st1' hk1' p
    have st := st1'.trans s (.keep st1'.sr hk1')
    replace q : KI G Wx k Z O e σ ρ H Rk ((B.ev C.cf e m').bind fun d2 m2 => appR .range2 [d, d2] m2) := q
    refine hb Z ρ' O e m' σ H' _ st.sr ?_
    cases rb : B.ev C.cf e m' with
    | bad => rw [rb] at q; exact q
    | exc c m2 => rw [rb] at q; exact fun cls dx ρ2 H2 st2 er => q cls dx ρ2 H2 (st.trans s st2) er
    | ok d2 m2 =>
      rw [rb] at q
      intro v2 ρ2 H1'' H2 st1'' hk1'' p2
      have st2 := st.trans s (st1''.trans st.sr (.keep st1''.sr hk1''))
      replace q : KI G Wx k Z O e σ ρ H Rk (appR .range2 [d, d2] m2) := q
      unfold appR at q
      cases d with
      | int i =>
        cases d2 with
        | int j =>
          have ev := p.repB.int
          subst ev
          have ev := p2.repB.int
          subst ev
          cases hz : (small62 i && small62 j && decide ((j - i).toNat ≤ LIM)) with
          | false =>
            have e1 : Op.range2.app [.int i, .int j] m2 = none := by
              show (if small62 i && small62 j && decide ((j - i).toNat ≤ LIM) then _ else none) = none
              rw [hz] <;> rfl
            rw [e1] at q
            exact q.elim
          | true =>
            have e1 : Op.range2.app [.int i, .int j] m2 = some (.lst (rangeL i (j - i).toNat 1)) := by
              show (if small62 i && small62 j && decide ((j - i).toNat ≤ LIM) then _ else none) = _
              rw [hz] <;> rfl
            rw [e1] at q
            rw [Bool.and_eq_true, Bool.and_eq_true, decide_eq_true_eq] at hz
            obtain ⟨b1, b2⟩ := small62_62 hz.1.1
            obtain ⟨b3, b4⟩ := small62_62 hz.1.2
            exact ⟨i, j, rfl, ⟨b1, b2, b3, b4⟩, q _ ρ2 H2 st2 (wk_range hz.2)⟩
        | _ => exact q.elim
      | _ => cases d2 <;> exact q.elim
theorem snd_range3 {tb tc : TE} (ha : Snd C G Wx .bor ta A) (hb : Snd C G Wx .bor tb B) (hc : Snd C G Wx .bor tc A') : SndI C G Wx k (L2.iRng3 (L2.tCons ta (L2.tCons tb (L2.tCons tc L2.tNil)))) (.op .range3 (.cons A (.cons B (.cons A' .nil)))) := by
  intro Z ρ O e m σ H Rk s q
  rw [ev_op3] at q
  refine ha Z ρ O e m σ H _ s ?_
  cases ra : A.ev C.cf e m with
  | bad => rw [ra] at q; exact q
  | exc c m' => rw [ra] at q; exact q
  | ok d m' =>
    rw [ra] at q
    intro v ρ' H1' H' st1' hk1' p
    have st := st1'.trans s (.keep st1'.sr hk1')
    replace q : KI G Wx k Z O e σ ρ H Rk ((B.ev C.cf e m').bind fun d2 m2 => (A'.ev C.cf e m2).bind fun d3 m3 => appR .range3 [d, d2, d3] m3) := q
    refine hb Z ρ' O e m' σ H' _ st.sr ?_
    cases rb : B.ev C.cf e m' with
    | bad => rw [rb] at q; exact q
    | exc c m2 => rw [rb] at q; exact fun cls dx ρ2 H2 st2 er => q cls dx ρ2 H2 (st.trans s st2) er
    | ok d2 m2 =>
      rw [rb] at q
      intro v2 ρ2 H1'' H2 st1'' hk1'' p2
      have st2 := st.trans s (st1''.trans st.sr (.keep st1''.sr hk1''))
      replace q : KI G Wx k Z O e σ ρ H Rk ((A'.ev C.cf e m2).bind fun d3 m3 => appR .range3 [d, d2, d3] m3) := q
      refine hc Z ρ2 O e m2 σ H2 _ st2.sr ?_
      cases rc : A'.ev C.cf e m2 with
      | bad => rw [rc] at q; exact q
      | exc c m3 => rw [rc] at q; exact fun cls dx ρ3 H3 st3 er => q cls dx ρ3 H3 (st2.trans s st3) er
      | ok d3 m3 =>
        rw [rc] at q
        intro v3 ρ3 H1x H3 st1x hk1x p3
        have st3 := st2.trans s (st1x.trans st2.sr (.keep st1x.sr hk1x))
        replace q : KI G Wx k Z O e σ ρ H Rk (appR .range3 [d, d2, d3] m3) := q
        unfold appR at q
        cases d with
        | int i =>
          cases d2 with
          | int j =>
            cases d3 with
            | int l =>
              have ev := p.repB.int
              subst ev
              have ev := p2.repB.int
              subst ev
              have ev := p3.repB.int
              subst ev
              cases hz : (small62 i && small62 j && decide (l = -1) && decide ((i - j).toNat ≤ LIM)) with
              | false =>
                have e1 : Op.range3.app [.int i, .int j, .int l] m3 = none := by
                  show (if small62 i && small62 j && decide (l = -1) && decide ((i - j).toNat ≤ LIM) then _ else none) = none
                  rw [hz] <;> rfl
                rw [e1] at q
                exact q.elim
              | true =>
                have e1 : Op.range3.app [.int i, .int j, .int l] m3 = some (.lst (rangeL i (i - j).toNat (-1))) := by
                  show (if small62 i && small62 j && decide (l = -1) && decide ((i - j).toNat ≤ LIM) then _ else none) = _
                  rw [hz] <;> rfl
                rw [e1] at q
                rw [Bool.and_eq_true, Bool.and_eq_true, Bool.and_eq_true, decide_eq_true_eq, decide_eq_true_eq] at hz
                obtain ⟨⟨⟨y1, y2⟩, y3⟩, y4⟩ := hz
                obtain ⟨b1, b2⟩ := small62_62 y1
                obtain ⟨b3, b4⟩ := small62_62 y2
                subst y3
                exact ⟨i, j, -1, (i - j).toNat, rfl, .neg b1 b2 b3 b4, q _ ρ3 H3 st3 (wk_rangeD y4)⟩
            | _ => exact q.elim
          | _ => cases d3 <;> exact q.elim
        | _ => cases d2 <;> cases d3 <;> exact q.elim
theorem si_range1 (hx : isBlt g sc "range" (.type "range")) (ha : SE g sc Wx .bor a A) (hs : ∀ env : PySem.Env, PySem.starEach [a] env = [(false, PySem.eval a env)] := by intro _; rfl) : SI g sc Wx k tg (.Call (.Name "range" p) [a] [] pos) (.op .range1 (.cons A .nil)) := by
  obtain ⟨ta, pa, qa⟩ := ha
  exact ⟨_, fun X o => L2.pi_range1 (o.gl hx.1) (o.mgn hx.2.1) (pa_any1 (pa X o) (hs _)) (hs _), snd_range1 qa⟩
theorem si_range2 (hx : isBlt g sc "range" (.type "range")) (ha : SE g sc Wx .bor a A) (hb : SE g sc Wx .bor b B) (hs : ∀ env : PySem.Env, PySem.starEach [a, b] env = [(false, PySem.eval a env), (false, PySem.eval b env)] := by intro _; rfl) (hs2 : ∀ env : PySem.Env, PySem.starEach [b] env = [(false, PySem.eval b env)] := by intro _; rfl) :
    SI g sc Wx k tg (.Call (.Name "range" p) [a, b] [] pos) (.op .range2 (.cons A (.cons B .nil))) := by
  obtain ⟨ta, pa, qa⟩ := ha
  obtain ⟨tb, pb, qb⟩ := hb
  exact ⟨_, fun X o => L2.pi_range2 (o.gl hx.1) (o.mgn hx.2.1) (L2.pa_cons (pa X o) (pa_any1 (pb X o) (hs2 _)) (by rw [hs, hs2])) (hs _) (hs2 _), snd_range2 qa qb⟩
theorem si_range3 (hx : isBlt g sc "range" (.type "range")) (ha : SE g sc Wx .bor a A) (hb : SE g sc Wx .bor b B) (hc : SE g sc Wx .bor c A') (hs : ∀ env : PySem.Env, PySem.starEach [a, b, c] env = [(false, PySem.eval a env), (false, PySem.eval b env), (false, PySem.eval c env)] := by intro _; rfl) (hs2 : ∀ env : PySem.Env, PySem.starEach [b, c] env = [(false, PySem.eval b env), (false, PySem.eval c env)] := by intro _; rfl) (hs3 : ∀ env : PySem.Env, PySem.starEach [c] env = [(false, PySem.eval c env)] := by intro _; rfl) :
    SI g sc Wx k tg (.Call (.Name "range" p) [a, b, c] [] pos) (.op .range3 (.cons A (.cons B (.cons A' .nil)))) := by
  obtain ⟨ta, pa, qa⟩ := ha
  obtain ⟨tb, pb, qb⟩ := hb
  obtain ⟨tc, pc, qc⟩ := hc
  exact ⟨_, fun X o => L2.pi_range3 (o.gl hx.1) (o.mgn hx.2.1) (L2.pa_cons (pa X o) (L2.pa_cons (pb X o) (pa_any1 (pc X o) (hs3 _)) (by rw [hs2, hs3])) (by rw [hs, hs2])) (by rw [hs, hs2]) (by rw [hs2] <;> rfl), snd_range3 qa qb qc⟩
end
end Rf

/-! RComp: list comprehensions. -/
namespace Rf
open PySem (Str Addr Value Pos Expr Stmt Scope Program World Heap Shared CmpOp Operator UnaryOp Obj)
open L2 (V Hp HO SqL SqT Rd upd upd_same upd_ne VK XK TE TT TA TS TG TGs TI WX Cx Ends OpR R2 rI rI0 PE PT PW PA PS PSs PG PGs PI It Inv)

section
variable {G : Gl} {Z Z' : Addr → Prop} {ρ ρ' : List Addr} {O O' : Nat → Option Addr} {e e' : En} {m m' : M} {σ σ' : L2.St} {H H' H0 : Hp} {Da : Addr}
/-- the outer addresses, and the new list's -/
def addZ (Z : Addr → Prop) (Da : Addr) : Addr → Prop := fun a => Z a ∨ a = Da
theorem addZ_w : ∀ a, Wr (addZ Z Da) ρ O a → Wr Z ρ O a ∨ a = Da := fun a h => by
  rcases h with (h | h) | h
  · exact .inl (.inl h)
  · exact .inr h
  · exact .inl (.inr h)
theorem w_addZ : ∀ a, Wr Z ρ O a → Wr (addZ Z Da) ρ O a := fun a h => h.imp .inl id
theorem tabs_upd {us : List V} {vs : List V} {T : List (Addr × Str)} (h : LamX.Tabs T H) (hl : H Da = some (.lst vs)) : LamX.Tabs T (upd H Da (.lst us)) := fun q hq => by
  obtain ⟨ps, h1, h2, h3⟩ := h q hq
  have ne : ∀ c u, H c = some u → (∀ xs, u ≠ .lst xs) → upd H Da (.lst us) c = some u := fun c u hc hn => by
    rw [upd_ne fun z => by
      rw [z, hl] at hc
      cases hc
      exact hn _ rfl]
    exact hc
  refine ⟨ps, ne _ _ h1 (fun _ z => nomatch z), h2, fun pos cv hc => ?_⟩
  obtain ⟨c, e1, e2⟩ := h3 pos cv hc
  exact ⟨c, e1, ne _ _ e2 (fun _ z => nomatch z)⟩
/-- a state over another heap in which all that it reaches is kept -/
theorem SR.move (s : SR G Z ρ O e m σ H) (tb : LamX.Tabs G.tb H') (zt : ∀ a, Z' a → Lv H' a) (zr : ∀ a ∈ ρ, ¬ Z' a) (oz : ∀ i a, O i = some a → ¬ Z' a) (k : Kp (Wr Z ρ O) H H') (kr : ∀ a vs, (a ∈ ρ ∨ ∃ i, O i = some a) → H a = some (.lst vs) → H' a = some (.lst vs))
    (w : ∀ a, Wr Z' ρ O a → Wr Z ρ O a ∨ ¬ Lv H a) (dm : ∀ i a, O i = some a → Lv H' a) : SR G Z' ρ O e m σ H' := by
  refine ⟨⟨tb, zt, zr, s.mr.nd, s.mr.len, fun n xs h => ?_⟩, s.len, s.oi, fun i a h => ⟨oz i a h, (s.oz i a h).2⟩, dm, fun i x h => ?_, s.on⟩
  · obtain ⟨a, vs, e1, e2, z, r⟩ := s.mr.mem n xs h
    exact ⟨a, vs, e1, kr a vs (.inl (List.mem_of_getElem? e1)) e2, z, Reps.mono k w (List.prefix_refl _) _ _ r⟩
  · obtain ⟨y, ey, h2⟩ := s.sl i x h
    refine ⟨y, ey, ?_⟩
    cases x with
    | val d =>
      obtain ⟨h3, v, e1, r⟩ := h2
      exact ⟨h3, v, e1, Rep.mono k w (List.prefix_refl _) _ _ r⟩
    | own d =>
      obtain ⟨a, vs, h3, e1, h4, z, r⟩ := h2
      exact ⟨a, vs, h3, e1, kr a vs (.inr ⟨i, h3⟩) h4, z, Reps.mono k w (List.prefix_refl _) _ _ r⟩
    | lock d =>
      obtain ⟨a, vs, h3, e1, h4, z, r⟩ := h2
      exact ⟨a, vs, h3, e1, kr a vs (.inr ⟨i, h3⟩) h4, z, Reps.mono k w (List.prefix_refl _) _ _ r⟩
theorem SR.addD (s : SR G Z ρ O e m σ H) (hD : H Da = none) (vs : List V) : SR G (addZ Z Da) ρ O e m σ (upd H Da (.lst vs)) := by
  have k0 := upd_k (o := HO.lst vs) hD
  have nn := keep_dm k0
  refine s.move (s.mr.tb.ext k0) (fun a h => ?_) (fun a h => ?_) (fun i a h => ?_) (fun a o h _ _ => k0 a o h) (fun a vs _ h => k0 _ _ h) (fun a h => ?_) (fun i a h => nn a (s.ot i a h))
  · rcases h with h | h
    · exact nn a (s.mr.zt a h)
    · rw [h]
      exact ⟨_, upd_same, nt_lst⟩
  · rintro (q | q)
    · exact s.mr.zr a h q
    · exact (s.mr.rt a h).some (q ▸ hD)
  · rintro (q | q)
    · exact (s.oz i a h).1 q
    · exact (s.ot i a h).some (q ▸ hD)
  · exact (addZ_w a h).imp id fun q => by rw [q]; exact nlv hD
theorem SR.updD {vs us : List V} (s : SR G (addZ Z Da) ρ O e m σ H) (hD : H Da = some (.lst vs)) : SR G (addZ Z Da) ρ O e m σ (upd H Da (.lst us)) := by
  have nn : ∀ a, Lv H a → Lv (upd H Da (.lst us)) a := fun a h => lv_upd h
  refine s.move (tabs_upd s.mr.tb hD) (fun a h => nn a (s.mr.zt a h)) s.mr.zr (fun i a h => (s.oz i a h).1) (Kp.wr (.inl (.inr rfl))) (fun a vs h q => ?_) (fun a h => .inl h) (fun i a h => nn a (s.ot i a h))
  have ne : a ≠ Da := fun z => by
    rcases h with h | ⟨i, h⟩
    · exact s.mr.zr a h (.inr z)
    · exact (s.oz i a h).1 (.inr z)
  rw [upd_ne ne]
  exact q
def cutH (H : Hp) (Da : Addr) : Hp := fun a => if a = Da then none else H a
theorem cutH_ne {a : Addr} (h : a ≠ Da) : cutH H Da a = H a := by
  unfold cutH
  rw [if_neg h]
theorem lv_cut {a : Addr} (h : a ≠ Da) (l : Lv H a) : Lv (cutH H Da) a := by
  obtain ⟨o, e, n⟩ := l
  exact ⟨o, (cutH_ne h).trans e, n⟩
theorem cutH_k : ∀ a u, cutH H Da a = some u → H a = some u := fun a u h => by
  unfold cutH at h
  split at h
  · cases h
  · exact h
theorem SR.delD {vs : List V} (s : SR G (addZ Z Da) ρ O e m σ H) (hD : H Da = some (.lst vs)) (hz : ¬ Z Da) : SR G Z ρ O e m σ (cutH H Da) := by
  have ko : ∀ a i, O i = some a → a ≠ Da := fun a i h z => (s.oz i a h).1 (.inr z)
  refine s.move (fun q hq => ?_) (fun a h => ?_) (fun a h q => s.mr.zr a h (.inl q)) (fun i a h q => (s.oz i a h).1 (.inl q)) (fun a o h n _ => ?_) (fun a vs h q => ?_) (fun a h => .inl (w_addZ a h)) (fun i a h => ?_)
  · obtain ⟨ps, h1, h2, h3⟩ := s.mr.tb q hq
    have ne : ∀ c u, H c = some u → (∀ xs, u ≠ .lst xs) → cutH H Da c = some u := fun c u hc hn => by
      rw [cutH_ne fun z => by
        rw [z, hD] at hc
        cases hc
        exact hn _ rfl]
      exact hc
    refine ⟨ps, ne _ _ h1 (fun _ z => nomatch z), h2, fun pos cv hc => ?_⟩
    obtain ⟨c, e1, e2⟩ := h3 pos cv hc
    exact ⟨c, e1, ne _ _ e2 (fun _ z => nomatch z)⟩
  · have ne : a ≠ Da := fun z => by
      rw [z] at h
      exact hz h
    exact lv_cut ne (s.mr.zt a (.inl h))
  · rw [cutH_ne fun z => n (.inl (.inr z))]
    exact h
  · have ne : a ≠ Da := fun z => by
      rcases h with h | ⟨i, h⟩
      · exact s.mr.zr a h (.inr z)
      · exact (s.oz i a h).1 (.inr z)
    rw [cutH_ne ne]
    exact q
  · exact lv_cut (ko a i h) (s.ot i a h)
theorem wipe_in {σ : L2.St} : ∀ {vs : List Nat} {i : Nat}, i ∈ vs → i < σ.length → (L2.wipe σ vs)[i]? = some none
  | v :: vs, i, h, hl => by
    rw [L2.wipe]
    by_cases hi : v = i
    · subst hi
      exact List.getElem?_set_self (by rw [L2.wipe_length]; exact hl)
    · rw [List.getElem?_set_ne hi]
      exact wipe_in ((List.mem_cons.mp h).resolve_left fun z => hi z.symm) hl
theorem wipe_out {σ : L2.St} : ∀ {vs : List Nat} {i : Nat}, i ∉ vs → (L2.wipe σ vs)[i]? = σ[i]?
  | [], i, h => rfl
  | v :: vs, i, h => by
    rw [L2.wipe, List.getElem?_set_ne fun z => h (by rw [z]; exact List.mem_cons_self)]
    exact wipe_out fun z => h (List.mem_cons_of_mem _ z)
theorem wipe_wipe {σ : L2.St} {vs : List Nat} : L2.wipe (L2.wipe σ vs) vs = L2.wipe σ vs := by
  apply List.ext_getElem?
  intro i
  by_cases hi : i ∈ vs
  · by_cases hl : i < σ.length
    · rw [wipe_in hi (by rw [L2.wipe_length]; exact hl), wipe_in hi hl]
    · rw [List.getElem?_eq_none (by rw [L2.wipe_length, L2.wipe_length]; omega), List.getElem?_eq_none (by rw [L2.wipe_length]; omega)]
  · rw [wipe_out hi]
theorem wipe_none : ∀ {vs : List Nat} {e e' : En}, e.wipe vs = some e' → ∀ i ∈ vs, ∀ s, e'[i]? ≠ some (some s)
  | [], _, _, _, i, hi, _ => absurd hi (by simp)
  | v :: vs, e, e', h, i, hi, s => by
    rw [En.wipe] at h
    obtain ⟨e1, h1, h2⟩ := Option.bind_eq_some_iff.mp h
    have hs : e' = e1.set v none := by
      split at h2
      · cases h2
        rfl
      · cases h2
        rfl
      · cases h2
    subst hs
    by_cases hv : v = i
    · subst hv
      intro z
      by_cases hl : v < e1.length
      · rw [List.getElem?_set_self hl] at z
        cases z
      · rw [List.getElem?_eq_none (by rw [List.length_set]; simpa using hl)] at z
        cases z
    · rw [List.getElem?_set_ne hv]
      exact wipe_none h1 i ((List.mem_cons.mp hi).resolve_left fun z => hv z.symm) s
end

section
variable {C : Cfg} {G : Gl} {Wx : WX} {k : Kd} {wi : TI} {gt : TG} {tt : TT} {te : TE} {Elt It' Cnd : E} {t : T} {own : List Nat}
abbrev nox : WX := fun _ _ _ _ => False
/-- how the loop goes on -/
structure CmpI (C : Cfg) (G : Gl) (Z : Addr → Prop) (O : Nat → Option Addr) (e' : En) (σw : L2.St) (ρ1 : List Addr) (H1 : Hp) (Da : Addr) (acc : List D) (ρc : List Addr) (mc : M) (Hc : Hp) : Prop where
  sr : SR G (addZ Z Da) ρc O e' mc σw Hc
  kp : ∀ a o, H1 a = some o → a ∉ ρ1 → NT o → Hc a = some o
  dm : ∀ a, Lv H1 a → Lv Hc a
  pre : ρ1 <+: ρc
  new : ∀ a ∈ ρc, a ∈ ρ1 ∨ ¬ Lv H1 a
  ac : ∃ vs, Hc Da = some (.lst vs) ∧ Reps G Hc (Wr (addZ Z Da) ρc O) ρc acc vs
/-- one turn -/
def compOne (cf : CF) (Elt : E) (t : T) (Cnd : E) (e' : En) (x : D) (m1 : M) : R (Option D) := match t.put x e' with
  | some e2 => (E.ev cf Cnd e2 m1).bind fun k m2 => match k with
    | .bl true => (E.ev cf Elt e2 m2).bind fun y m3 => .ok (some y) m3
    | .bl false => .ok none m2
    | _ => .bad
  | none => .bad
def compAt (cf : CF) (Elt : E) (t : T) (Cnd : E) (own : List Nat) (e : En) (d : D) (m' : M) : R D := match iter? d, e.wipe own with
  | some ds, some e' => compGo (compOne cf Elt t Cnd e') ds [] m'
  | _, _ => .bad
theorem ev_comp (cf : CF) (Elt : E) (t : T) (It' Cnd : E) (own : List Nat) (e : En) (m : M) : (E.comp Elt t It' Cnd own).ev cf e m = (It'.ev cf e m).bind fun d m' => compAt cf Elt t Cnd own e d m' := by
  rw [E.ev]
  rfl
theorem snd_comp (hi : SndI C G Wx .bor wi It') (hg : SndG G gt t) (ht : SndT C G nox tt Cnd) (he : Snd C G nox .rep te Elt) (hsl : ∀ i ∈ t.slots, i ∈ own) : Snd C G Wx .fre (L2.tLc wi gt tt te own) (.comp Elt t It' Cnd own) := by
  intro Z ρ O e m σ H Q s q
  rw [ev_comp] at q
  refine hi Z ρ O e m σ H _ s ?_
  cases ra : It'.ev C.cf e m with
  | bad => rw [ra] at q; exact q
  | exc c m' => rw [ra] at q; exact q
  | ok d m' =>
    rw [ra] at q
    replace q : KE G Wx .fre Z O e σ ρ H Q (compAt C.cf Elt t Cnd own e d m') := q
    unfold compAt at q
    cases hd : iter? d with
    | none => simp only [hd] at q; exact q.elim
    | some ds =>
      cases hw : e.wipe own with
      | none => simp only [hd, hw] at q; exact q.elim
      | some e' =>
        simp only [hd, hw] at q
        unfold KI
        simp only [hd]
        intro J ρ1 H1 st wk Da hDa
        have sw : SR G Z ρ1 O e' m' (L2.wipe σ own) H1 := st.sr.wipe hw
        have oN : ∀ i ∈ own, O i = none := fun i hi => sw.on i fun x hx => absurd hx (wipe_none hw i hi x)
        have zD : ¬ Z Da := fun z => (sw.mr.zt Da z).some hDa
        generalize hone : compOne C.cf Elt t Cnd e' = one at q
        refine ⟨fun i mm Hc => mm = ds.length - i ∧ i ≤ ds.length ∧ ∃ ρc mc acc, CmpI C G Z O e' (L2.wipe σ own) ρ1 H1 Da acc ρc mc Hc ∧ acc.length ≤ i ∧ KE G Wx .fre Z O e σ ρ H Q (compGo one (ds.drop i) acc mc), ⟨ds.length, rfl, Nat.zero_le _, ρ1, m', [], ⟨sw.addD hDa [], fun a o h n nt => upd_k hDa a o h, keep_dm (upd_k hDa), List.prefix_refl _, fun a h => .inl h, [], upd_same, Reps.nil⟩, Nat.le_refl _, q⟩, ?_⟩
        rintro i mm Hc ⟨rfl, hil, ρc, mc, acc, I, hacc, q⟩
        obtain ⟨vs, hDc, racc⟩ := I.ac
        rcases Nat.lt_or_ge i ds.length with hlt | hge
        · refine .inr ?_
          have hdi : ds[i]? = some ds[i] := List.getElem?_eq_getElem hlt
          obtain ⟨go, yld⟩ := wk.go i Hc (Wr (addZ Z Da) ρc O) ρc (fun a o h n nt => I.kp a o h n nt) (fun a h => by
            rcases addZ_w a h with h | h
            · rcases h with h | h | h
              · exact .inl (.inl h)
              · exact (I.new a h).imp (fun z => .inr (.inl z)) id
              · exact .inl (.inr (.inr h))
            · exact .inr (h ▸ nlv hDa)) I.pre (fun a h => I.sr.wt a h) _ hdi
          refine ⟨go, fun Hn => ∃ ρc mc acc, CmpI C G Z O e' (L2.wipe σ own) ρ1 H1 Da acc ρc mc Hn ∧ acc.length ≤ i + 1 ∧ KE G Wx .fre Z O e σ ρ H Q (compGo one (ds.drop (i + 1)) acc mc), fun Hn hn => ⟨ds.length - (i + 1), by omega, rfl, hlt, hn⟩, fun x Hy hy => ?_⟩
          obtain ⟨ky, rx⟩ := yld x Hy hy
          have sy := I.sr.keep ky
          rw [List.drop_eq_getElem_cons hlt, compGo] at q
          have q1 : one ds[i] mc = compOne C.cf Elt t Cnd e' ds[i] mc := by rw [hone]
          rw [q1] at q
          unfold compOne at q
          cases hp : t.put ds[i] e' with
          | none => simp only [hp] at q; exact q.elim
          | some e2 =>
            simp only [hp] at q
            refine hg (addZ Z Da) ρc O e' mc (L2.wipe σ own) Hy ds[i] x e2 _ sy rx hp fun O' σ2 hO s2 hws ho => ?_
            have eO : O' = O := ho fun i hi => oN i (hsl i hi)
            subst eO
            refine ⟨by rw [hws own hsl, wipe_wipe], ?_⟩
            -- what is the same behind each way out
            have back : ∀ {ρ3 m3 H3}, Stp G (addZ Z Da) O' e2 σ2 ρc Hy ρ3 m3 H3 → CmpI C G Z O' e' (L2.wipe σ own) ρ1 H1 Da acc ρ3 m3 H3 := fun {ρ3 m3 H3} st3 => by
              have st4 : Stp G (addZ Z Da) O' e' (L2.wipe σ own) ρc Hy ρ3 m3 H3 := Stp.call sy ⟨MR.zc st3.sr, st3.kp, st3.dm, st3.pre, st3.new⟩
              refine ⟨st4.sr, fun a o h n nt => st3.kp a o (ky _ _ (I.kp a o h n nt)) (fun z => (I.new a z).elim n fun z => z ⟨o, h, nt⟩) nt, fun a h => st3.dm a (keep_dm ky a (I.dm a h)), I.pre.trans st3.pre, fun a h => (st3.new a h).elim (I.new a) fun z => .inr (fresh_of I.dm (fresh_of (keep_dm ky) z)), vs, st3.kp _ _ (ky _ _ hDc) (fun z => sy.mr.zr _ z (.inr rfl)) nt_lst, ?_⟩
              have r1 : Reps G Hy (Wr (addZ Z Da) ρc O') ρc acc vs := Reps.mono (fun a o h _ _ => ky a o h) (fun a h => .inl h) (List.prefix_refl _) _ _ racc
              exact st3.reps r1
            refine ht (addZ Z Da) ρc O' e2 mc σ2 Hy _ s2 ?_
            cases rc : Cnd.ev C.cf e2 mc with
            | bad => simp only [rc, R.bind] at q; exact q.elim
            | exc c m2 => simp only [rc, R.bind] at q; exact q.elim
            | ok b m2 =>
              simp only [rc, R.bind] at q
              cases b with
              | bl b =>
                cases b with
                | false =>
                  intro ρ3 H3 st3
                  exact ⟨ρ3, m2, acc, back st3, by omega, q⟩
                | true =>
                  intro ρ3 H3 st3
                  refine he (addZ Z Da) ρ3 O' e2 m2 σ2 H3 _ st3.sr ?_
                  cases re : Elt.ev C.cf e2 m2 with
                  | bad => simp only [re] at q; exact q.elim
                  | exc c m3 => simp only [re] at q; exact q.elim
                  | ok y m3 =>
                    simp only [re] at q
                    intro v ρ4 H4x H4 st4x hk4 pv
                    have st4 : Stp G (addZ Z Da) O' e2 σ2 ρc Hy ρ4 m3 H4 := st3.trans s2 (st4x.trans st3.sr (.keep st4x.sr hk4))
                    have I4 := back st4
                    obtain ⟨us, hD4, r4⟩ := I4.ac
                    refine ⟨us, hD4, ?_, ρ4, m3, acc ++ [y], ?_, by rw [List.length_append]; show acc.length + 1 ≤ _; omega, q⟩
                    · rw [← r4.len, ← LIM_eq]
                      exact Nat.lt_of_lt_of_le (by omega) wk.len
                    · have kp5 : Kp (Wr (addZ Z Da) ρ4 O') H4 (upd H4 Da (.lst (us ++ [v]))) := Kp.wr (.inl (.inr rfl))
                      have nn : ∀ a, Lv H4 a → Lv (upd H4 Da (.lst (us ++ [v]))) a := fun a h => lv_upd h
                      refine ⟨I4.sr.updD hD4, fun a o h n nt => ?_, fun a h => nn a (I4.dm a h), I4.pre, I4.new, us ++ [v], upd_same, ?_⟩
                      · rw [upd_ne fun z => by
                          rw [z, hDa] at h
                          cases h]
                        exact I4.kp a o h n nt
                      · have rv : Rep G H4 (Wr (addZ Z Da) ρ4 O') ρ4 y v := pv
                        exact Reps.mono kp5 (fun a h => .inl h) (List.prefix_refl _) _ _ (r4.append (Reps.cons rv Reps.nil))
              | _ => exact q.elim
        · refine .inl ?_
          have ei : i = ds.length := by omega
          subst ei
          refine ⟨wk.stop Hc (fun a o h n nt => I.kp a o h n nt), ?_⟩
          rw [List.drop_length, compGo] at q
          have sx : SR G Z ρc O e' mc (L2.wipe σ own) (cutH Hc Da) := I.sr.delD hDc zD
          have ne : ∀ a, Lv H1 a → a ≠ Da := fun a h z => h.some (z ▸ hDa)
          have stx : Stp G Z O e σ ρ H ρc mc (cutH Hc Da) := st.trans s (Stp.call st.sr ⟨MR.zc sx, fun a o h n nt => by
              rw [cutH_ne (ne a ⟨o, h, nt⟩)]
              exact I.kp a o h n nt, fun a h => lv_cut (ne a h) (I.dm a h), I.pre, I.new⟩)
          have rx : Reps G (cutH Hc Da) (Wr Z ρc O) ρc acc vs := Reps.mono (fun a o h n _ => by
            rw [cutH_ne fun z => n (.inl (.inr z))]
            exact h) (fun a h => .inl (w_addZ a h)) (List.prefix_refl _) _ _ racc
          have nD : ¬ Wr Z ρc O Da := fun z => by
            rcases z with z | z | ⟨j, z⟩
            · exact zD z
            · exact I.sr.mr.zr Da z (.inr rfl)
            · exact (I.sr.oz j Da z).1 (.inr rfl)
          have hz : acc.length ≤ LIM := Nat.le_trans hacc wk.len
          refine q (.ref Da) ρc (cutH Hc Da) Hc stx cutH_k ⟨?_, fun ds' ed => ?_⟩
          · rw [Rep]
            exact ⟨Da, vs, rfl, ⟨hDc, nD⟩, hz, racc.shr w_addZ⟩
          · cases ed
            exact ⟨Da, vs, rfl, by unfold cutH; rw [if_pos rfl], hDc, hz, rx⟩
end
/-! ### in the contexts -/
section
variable {g : Gm} {sc : Scope} {Wx : WX} {k : Kd} {elt tg iter c : Expr} {ifs : List Expr} {Elt It' Cnd : E} {t : T} {scope : Scope} {own : List (Str × Nat)} {pos spos py : Pos} {X : Cx}
/-- the block's tables -/
abbrev Gm.blk (g : Gm) (scope : Scope) : Gm := { g with fnb := fun x => scope.names.lookup x == some .cell }
theorem Ok.blk (o : Ok g sc Wx X) (s : Shared) (H : Hp) (C : Addr) (cl : List (Str × Addr)) (fp : List Addr) : Ok (g.blk scope) (L2.relS scope sc) nox (X.blk s H scope (PySem.compEnvC scope cl C X.env) fp) where
  pr := o.pr
  w := o.w
  K := o.K
  mg := o.mg
  bs := o.bs
  N := o.N
  sc := by
    rw [← o.sc]
    rfl
  calm := o.calm
  room := o.room
  tk := takes0N
  fn := fun x h => h
  lam := o.lam
  calls := fun n x h1 h2 => by
    obtain ⟨f, fd, ps, a⟩ := (o.calls n x h1 h2).ex
    exact ⟨f, fd, ps, a⟩
def STs (g : Gm) (sc : Scope) (Wx : WX) (ifs : List Expr) (A : E) : Prop := ∃ t, (∀ X, Ok g sc Wx X → L2.PTs X ifs t) ∧ SndT g.C g.G Wx t A
theorem sts_nil : STs g sc Wx [] (.con (.bl true)) := ⟨L2.tYes, fun X o => L2.pts_nil, fun Z ρ O e m σ H Q s q => by
  rw [E.ev] at q
  exact q ρ H (.refl s)⟩
theorem sts_one (h : ST g sc Wx c Cnd) : STs g sc Wx [c] Cnd := h.imp fun t h => ⟨fun X o => L2.pts_one (h.1 X o), h.2⟩
theorem se_comp (hi : SI g sc Wx .bor tg iter It') (hg : SG (g.blk scope) (L2.relS scope sc) nox tg t) (ht : STs (g.blk scope) (L2.relS scope sc) nox ifs Cnd) (he : SE (g.blk scope) (L2.relS scope sc) nox .rep elt Elt) (ok : L2.BlkOk g.N sc scope own) (hsl : ∀ i ∈ t.slots, i ∈ own.map (·.2))
    (hs : ∀ (env : PySem.Env) x, PySem.foldedSetIterable iter env x = pure x := by intros; rfl) : SE g sc Wx .fre (.ListComp elt [⟨tg, iter, ifs, 0⟩] scope pos) (.comp Elt t It' Cnd (own.map (·.2))) := by
  obtain ⟨wi, pi, qi⟩ := hi
  obtain ⟨gt, pg, qg⟩ := hg
  obtain ⟨tt, pt, qt⟩ := ht
  obtain ⟨te, pe, qe⟩ := he
  refine ⟨_, fun X o => L2.pe_lc (own := own) o.calm (by rw [o.N]; exact g.nd) (pi X o) (by rw [o.N, o.sc]; exact ok) (fun s H C cl fp => pg _ (o.blk s H C cl fp)) (fun s H C cl fp => pt _ (o.blk s H C cl fp)) (fun s H C cl fp => pe _ (o.blk s H C cl fp)) (hs X.env), snd_comp qi qg qt qe hsl⟩
end
end Rf

/-! RStm: statements. -/
namespace Rf
open PySem (Str Addr Value Pos Expr Stmt Scope Program World Heap Shared CmpOp Operator UnaryOp Obj)
open L2 (V Hp HO SqL SqT Rd upd upd_same upd_ne VK XK TE TT TA TS TG TGs TI WX Cx Ends OpR R2 rI rI0 PE PT PW PA PS PSs PG PGs PI It Inv)

/-- from where one reckons what stays: the memory, the heap, what may be written -/
structure Bs where
  r : List Addr
  H : Hp
  W : Addr → Prop
/-- the state within a def, or a loop, that was entered at b -/
structure StpS (G : Gl) (Z : Addr → Prop) (b : Bs) (ρ : List Addr) (O : Nat → Option Addr) (e : En) (m : M) (σ : L2.St) (H : Hp) : Prop where
  sr : SR G Z ρ O e m σ H
  kp : ∀ a o, b.H a = some o → ¬ b.W a → NT o → H a = some o
  dm : ∀ a, Lv b.H a → Lv H a
  pre : b.r <+: ρ
  new : ∀ a ∈ ρ, b.W a ∨ ¬ Lv b.H a
  own : ∀ i a, O i = some a → b.W a ∨ ¬ Lv b.H a
/-- .. at its end -/
structure StpB (G : Gl) (Z : Addr → Prop) (b : Bs) (ρ : List Addr) (m : M) (H : Hp) : Prop where
  mr : MR G Z ρ noO m H
  kp : ∀ a o, b.H a = some o → ¬ b.W a → NT o → H a = some o
  dm : ∀ a, Lv b.H a → Lv H a
  pre : b.r <+: ρ
  new : ∀ a ∈ ρ, b.W a ∨ ¬ Lv b.H a
def KO (G : Gl) (Wx : WX) (Z : Addr → Prop) (b : Bs) (D : Ends) : O → Prop
  | .nx e' m' => ∀ ρ O σ H, StpS G Z b ρ O e' m' σ H → D.nx σ H
  | .rt d m' => ∀ v ρ H, StpB G Z b ρ m' H → Rep G H (Wr Z ρ noO) ρ d v → D.rt v H
  | .exc c e' m' => ∀ cls dx ρ σ H, StpB G Z b ρ m' H → ErrIs G c cls dx → Wx cls dx σ H
  | .bad => False
def SndS (C : Cfg) (G : Gl) (Wx : WX) (W : Nat) (t : TS) (s : S) : Prop := ∀ (Z : Addr → Prop) (b : Bs) (ρ : List Addr) (O : Nat → Option Addr) (e : En) (m : M) (σ : L2.St) (H : Hp) (D : Ends),
  StpS G Z b ρ O e m σ H → KO G Wx Z b D (s.ex1 W C.cf e m) → t D σ H
def SndSs (C : Cfg) (G : Gl) (Wx : WX) (W : Nat) (t : TS) (s : Ss) : Prop := ∀ (Z : Addr → Prop) (b : Bs) (ρ : List Addr) (O : Nat → Option Addr) (e : En) (m : M) (σ : L2.St) (H : Hp) (D : Ends),
  StpS G Z b ρ O e m σ H → KO G Wx Z b D (s.exs W C.cf e m) → t D σ H
section
variable {C : Cfg} {G : Gl} {Wx : WX} {W : Nat} {k : Kd} {Z : Addr → Prop} {b : Bs} {ρ ρ' : List Addr} {H H' : Hp} {O : Nat → Option Addr} {e : En} {m m' : M} {σ : L2.St} {D : Ends} {t : TE} {A : E}
theorem StpS.step (s : StpS G Z b ρ O e m σ H) (st : Stp G Z O e σ ρ H ρ' m' H') : StpS G Z b ρ' O e m' σ H' :=
  ⟨st.sr, fun a o h n nt => st.kp a o (s.kp a o h n nt) (fun z => (s.new a z).elim n fun z => z ⟨o, h, nt⟩) nt, fun a h => st.dm a (s.dm a h), s.pre.trans st.pre, fun a h => (st.new a h).elim (s.new a) fun z => .inr (fresh_of s.dm z), s.own⟩
theorem StpS.keep (s : StpS G Z b ρ O e m σ H) (k : ∀ a u, H a = some u → H' a = some u) : StpS G Z b ρ O e m σ H' := s.step (.keep s.sr k)
theorem StpS.fin (s : StpS G Z b ρ O e m σ H) : StpB G Z b ρ m H := ⟨s.sr.mr.shr OLe.no, s.kp, s.dm, s.pre, s.new⟩
/-- a write to a list of the memory, of a slot -/
theorem StpS.kpW {a : Addr} {us : List V} (s : StpS G Z b ρ O e m σ H) (ha : a ∈ ρ ∨ ∃ i, O i = some a) : ∀ c o, b.H c = some o → ¬ b.W c → NT o → upd H a (.lst us) c = some o := fun c o h n nt => by
  have ne : c ≠ a := fun z => by
    subst z
    have q : b.W c ∨ ¬ Lv b.H c := ha.elim (s.new c) fun ⟨i, hi⟩ => s.own i c hi
    rcases q with q | q
    · exact n q
    · exact q ⟨o, h, nt⟩
  rw [upd_ne ne]
  exact s.kp c o h n nt
theorem StpS.dmW {a : Addr} {us : List V} (s : StpS G Z b ρ O e m σ H) : ∀ c, Lv b.H c → Lv (upd H a (.lst us)) c := fun c h => lv_upd (s.dm c h)
/-- an expression, then what hangs on it -/
theorem KO.exp {f : _root_.Rf.D → M → _root_.Rf.O} {Q : VK} {Aa : E} (ha : Snd C G Wx k t Aa) (s : StpS G Z b ρ O e m σ H) (q : KO G Wx Z b D ((Aa.ev C.cf e m).toO e f))
    (ok : ∀ d m' v ρ' H1 H', StpS G Z b ρ' O e m' σ H1 → Stp G Z O e σ ρ H ρ' m' H1 → (∀ a u, H1 a = some u → H' a = some u) → PostV k G H1 H' (Wr Z ρ' O) ρ' d v → KO G Wx Z b D (f d m') → Q v H') : t σ H Q := by
  refine ha Z ρ O e m σ H Q s.sr ?_
  cases ra : Aa.ev C.cf e m with
  | bad => rw [ra] at q; exact q
  | exc c m' =>
    rw [ra] at q
    exact fun cls dx ρ' H' st er => q cls dx ρ' σ H' (s.step st).fin er
  | ok d m' =>
    rw [ra] at q
    exact fun v ρ' H1 H' st hk p => ok d m' v ρ' H1 H' (s.step st) st hk p q
theorem KO.nb {f : _root_.Rf.D → M → _root_.Rf.O} (nb : ∀ d m', (∀ b, d ≠ .bl b) → f d m' = .bad) {d : _root_.Rf.D} (q : KO G Wx Z b D (f d m')) (h : ∀ b, d ≠ .bl b) : False := by
  rw [nb d m' h] at q
  exact q
theorem KO.tst {f : _root_.Rf.D → M → _root_.Rf.O} {Q : Bool → Hp → Prop} {tt : TT} {Aa : E} (ha : SndT C G Wx tt Aa) (s : StpS G Z b ρ O e m σ H) (q : KO G Wx Z b D ((Aa.ev C.cf e m).toO e f)) (nb : ∀ d m', (∀ b, d ≠ .bl b) → f d m' = .bad)
    (ok : ∀ c0 m' ρ' H', StpS G Z b ρ' O e m' σ H' → KO G Wx Z b D (f (.bl c0) m') → Q c0 H') : tt σ H Q := by
  refine ha Z ρ O e m σ H Q s.sr ?_
  cases ra : Aa.ev C.cf e m with
  | bad => rw [ra] at q; exact q
  | exc c m' =>
    rw [ra] at q
    exact fun cls dx ρ' H' st er => q cls dx ρ' σ H' (s.step st).fin er
  | ok d m' =>
    rw [ra] at q
    cases d with
    | bl b => exact fun ρ' H' st => ok b m' ρ' H' (s.step st) q
    | _ =>
      refine (KO.nb nb q ?_).elim
      intro b z
      cases z
/-! ### blocks and small statements -/
theorem sndSs_nil : SndSs C G Wx W L2.tNext .nil := fun Z b ρ O e m σ H D s q => by
  rw [Ss.exs] at q
  exact q ρ O σ H s
theorem KO.bind {f : En → M → _root_.Rf.O} {r : _root_.Rf.O} {u : TS} (q : KO G Wx Z b D (r.bind f)) (h : ∀ e' m', KO G Wx Z b D (f e' m') → ∀ ρ O σ H, StpS G Z b ρ O e' m' σ H → u D σ H) : KO G Wx Z b { D with nx := u D } r := by
  cases r with
  | nx e' m' => exact fun ρ O σ H s => h e' m' q ρ O σ H s
  | rt d m' => exact q
  | exc c e' m' => exact q
  | bad => exact q
theorem sndSs_cons {t u : TS} {a : S} {as : Ss} (ha : SndS C G Wx W t a) (hb : SndSs C G Wx W u as) : SndSs C G Wx W (L2.tSeq t u) (.cons a as) := fun Z b ρ O e m σ H D s q => by
  rw [Ss.exs] at q
  exact ha Z b ρ O e m σ H _ s (KO.bind q fun e' m' q' ρ O σ H s' => hb Z b ρ O e' m' σ H D s' q')
/-- a list that a slot owns becomes a value, ahead of a statement -/
theorem sndSs_frz {t : TS} {i : Nat} {as : Ss} (hb : SndSs C G Wx W t as) : SndSs C G Wx W t (.cons (.freeze i) as) := fun Z b ρ O e m σ H D s q => by
  rw [Ss.exs, S.ex1] at q
  split at q
  · rename_i xs h
    exact hb Z b ρ (dropO O i) _ m σ H D ⟨s.sr.frz h, s.kp, s.dm, s.pre, s.new, fun j a h => s.own j a (dropO_le j a h)⟩ q
  · exact hb Z b ρ O e m σ H D s q
  · exact q.elim
theorem sndS_pass : SndS C G Wx W L2.tNext .pass := fun Z b ρ O e m σ H D s q => by
  rw [S.ex1] at q
  exact q ρ O σ H s
theorem sndS_ret (ha : Snd C G Wx .rep t A) : SndS C G Wx W (L2.tRet t) (.ret A) := fun Z b ρ O e m σ H D s q => by
  rw [S.ex1] at q
  exact KO.exp ha s q fun d m' v ρ' H1 H' s' st hk p q => q v ρ' H' (s'.keep hk).fin (Rep.shr OLe.no.w p)
theorem sndS_retN : SndS C G Wx W L2.tRetN .retN := fun Z b ρ O e m σ H D s q => by
  rw [S.ex1] at q
  exact q .non ρ H s.fin (by rw [Rep])
theorem sndS_ex (ha : Snd C G Wx k t A) : SndS C G Wx W (L2.tDrop t) (.ex A) := fun Z b ρ O e m σ H D s q => by
  rw [S.ex1] at q
  exact KO.exp ha s q fun d m' v ρ' H1 H' s' st hk p q => q ρ' O σ H' (s'.keep hk)
theorem sndS_if {c : TT} {Cn : E} {t u : TS} {a a' : Ss} (hc : SndT C G Wx c Cn) (ha : SndSs C G Wx W t a) (hb : SndSs C G Wx W u a') : SndS C G Wx W (L2.tIfS c t u) (.ifs Cn a a') := fun Z b ρ O e m σ H D s q => by
  rw [S.ex1] at q
  refine KO.tst hc s q (fun d m' h => ?_) fun b' m' ρ' H' s' q' => ?_
  · cases d with
    | bl b => exact absurd rfl (h b)
    | _ => rfl
  · cases b' with
    | true => exact ha Z b ρ' O e m' σ H' D s' q'
    | false => exact hb Z b ρ' O e m' σ H' D s' q'
/-! ### stores -/
theorem sndS_set {gt : TG} {tg : T} (ha : Snd C G Wx .rep t A) (hg : SndG G gt tg) : SndS C G Wx W (L2.tAsg t gt) (.set tg A) := fun Z b ρ O e m σ H D s q => by
  rw [S.ex1] at q
  refine KO.exp ha s q fun d m' v ρ' H1 H' s' st hk p q => ?_
  have s2 := s'.keep hk
  cases hp : tg.put d e with
  | none => simp only [hp] at q; exact q.elim
  | some e' =>
    simp only [hp] at q
    exact hg Z ρ' O e m' σ H' d v e' _ s2.sr p hp fun O' σ' hO s3 _ _ => q ρ' O' σ' H' ⟨s3, s2.kp, s2.dm, s2.pre, s2.new, fun i a h => s2.own i a (hO i a h)⟩
theorem sndS_own {i : Nat} (ha : Snd C G Wx .fre t A) : SndS C G Wx W (L2.tAsg t (L2.gName i)) (.own i A) := fun Z b ρ O e m σ H D s q => by
  rw [S.ex1] at q
  refine KO.exp ha s q fun d m' v ρ' H1 H' s' st hk p q => ?_
  cases d with
  | lst xs =>
    obtain ⟨p', vs, rfl, e2, e3, z, r⟩ := p.2 xs rfl
    unfold En.setSl at q
    cases hf : e.free i with
    | false =>
      simp only [hf] at q
      exact q.elim
    | true =>
      simp only [hf, if_true] at q
      refine q ρ' (setO O i p') _ H' ⟨s'.sr.own (En.free_lt hf) e2 hk e3 z r, (s'.keep hk).kp, (s'.keep hk).dm, s'.pre, s'.new, fun j a h => ?_⟩
      by_cases hj : j = i
      · unfold setO at h
        rw [if_pos hj] at h
        cases h
        exact .inr (fresh_of s'.dm (nlv e2))
      · rw [setO_ne hj] at h
        exact s'.own j a h
  | _ => exact q.elim
theorem ixN_lt {n : Nat} {i : Int} {j : Nat} (h : ixN n i = some j) : j < n := by
  unfold ixN at h
  split at h
  · split at h
    · cases h
      omega
    · cases h
  · split at h
    · cases h
      omega
    · cases h
/-- xs[i] = v -/
theorem sndS_setIx {i : Nat} {ti : TE} {B : E} (hv : Snd C G Wx .rep t A) (hi : Snd C G Wx .bor ti B) : SndS C G Wx W (L2.tAsg t (L2.gSub (L2.tVar i) ti L2.rSetL)) (.setIx i B A) := fun Z b ρ O e m σ H D s q => by
  rw [S.ex1] at q
  refine KO.exp hv s q fun d m1 v ρ1 H1' H1 s' st1' hk p q => ?_
  have s1 := s'.keep hk
  split at q
  · rename_i xs hx
    obtain ⟨y, ey, a, vs, h1, h2, h3, z, r⟩ := s1.sr.sl i _ hx
    refine ⟨.ref a, by rw [ey, h2], ?_⟩
    refine KO.exp hi s1 q fun kd m2 iv ρ2 H2' H2 s2' st2' hk2 p2 q => ?_
    have s2 := s2'.keep hk2
    cases kd with
    | int k =>
      have ev := p2.repB.int
      subst ev
      replace q : KO G Wx Z b D (match ixN xs.length k with
        | some j => .nx (e.set i (some (.own (xs.set j d)))) m2
        | none => .bad) := q
      cases hj : ixN xs.length k with
      | none => rw [hj] at q; exact q.elim
      | some j =>
        rw [hj] at q
        obtain ⟨y2, ey2, a2, us, k1, k2, k3, z2, r2⟩ := s2.sr.sl i _ hx
        rw [h1] at k1
        cases k1
        refine ⟨a, us, k, j, rfl, rfl, k3, by rw [← r2.len, ← ixN_eq]; exact hj, ?_⟩
        have st2 : Stp G Z O e σ ρ1 H1 ρ2 m2 H2 := st2'.trans s1.sr (.keep st2'.sr hk2)
        have rv : Rep G H2 (Wr Z ρ2 O) ρ2 d v := st2.rep p
        refine q ρ2 O σ _ ⟨s2.sr.wr hx h1 k3 (by rw [List.length_set]; exact z2) (r2.set rv j), fun b' o h n nt => ?_, fun b' h => ?_, s2.pre, s2.new, s2.own⟩
        · exact s2.kpW (.inr ⟨i, h1⟩) b' o h n nt
        · exact s2.dmW b' h
    | _ => exact q.elim
  · exact q.elim
/-- source[i] = v -/
theorem sndS_msetIx {to ti : TE} {A' B : E} (hv : Snd C G Wx .rep t A) (ho : Snd C G Wx .rep to A') (hi : Snd C G Wx .bor ti B) : SndS C G Wx W (L2.tAsg t (L2.gSub to ti L2.rSetL)) (.msetIx A' B A) := fun Z b ρ O e m σ H D s q => by
  rw [S.ex1] at q
  refine KO.exp hv s q fun d m1 v ρ1 H1' H1 s' st1' hk p q => ?_
  have s1 := s'.keep hk
  refine KO.exp ho s1 q fun r m2 ov ρ2 H2' H2 s2' st2' hk2 p2 q => ?_
  have s2 := s2'.keep hk2
  have st2 : Stp G Z O e σ ρ1 H1 ρ2 m2 H2 := st2'.trans s1.sr (.keep st2'.sr hk2)
  cases r with
  | mref n =>
    refine KO.exp hi s2 q fun kd m3 iv ρ3 H3' H3 s3' st3' hk3 p3 q => ?_
    have s3 := s3'.keep hk3
    have st3 : Stp G Z O e σ ρ2 H2 ρ3 m3 H3 := st3'.trans s2.sr (.keep st3'.sr hk3)
    cases kd with
    | int k =>
      have ev := p3.repB.int
      subst ev
      replace q : KO G Wx Z b D (match m3[n]? with
        | some (.lst xs) => match ixN xs.length k with
          | some j => .nx e (m3.set n (.lst (xs.set j d)))
          | none => .bad
        | none => .bad) := q
      cases hm : m3[n]? with
      | none => rw [hm] at q; exact q.elim
      | some mo =>
        cases mo with
        | lst xs =>
          rw [hm] at q
          replace q : KO G Wx Z b D (match ixN xs.length k with
            | some j => .nx e (m3.set n (.lst (xs.set j d)))
            | none => .bad) := q
          cases hj : ixN xs.length k with
          | none => rw [hj] at q; exact q.elim
          | some j =>
            rw [hj] at q
            have p2' : Rep G H3 (Wr Z ρ3 O) ρ3 (.mref n) ov := st3.rep p2
            rw [Rep] at p2'
            obtain ⟨a, e1, rfl⟩ := p2'
            obtain ⟨a', vs, k1, k2, z, r⟩ := s3.sr.mr.mem n xs hm
            rw [e1] at k1
            cases k1
            refine ⟨a, vs, k, j, rfl, rfl, k2, by rw [← r.len, ← ixN_eq]; exact hj, ?_⟩
            have rv : Rep G H3 (Wr Z ρ3 O) ρ3 d v := st3.rep (st2.rep p)
            exact q ρ3 O σ _ ⟨s3.sr.mwr hm e1 k2 (by rw [List.length_set]; exact z) (r.set rv j), s3.kpW (.inl (List.mem_of_getElem? e1)), s3.dmW, s3.pre, s3.new, s3.own⟩
    | _ => exact q.elim
  | _ => exact q.elim
/-- xs.append(v) -/
theorem sndS_append {i : Nat} (hv : Snd C G Wx .rep t A) : SndS C G Wx W (L2.tDrop (L2.tBM G.K "list" L2.rAppend (L2.tVar i) (L2.tCons t L2.tNil))) (.append i A) := fun Z b ρ O e m σ H D s q => by
  rw [S.ex1] at q
  split at q
  · rename_i xs hx
    obtain ⟨y, ey, a, vs, h1, h2, h3, z, r⟩ := s.sr.sl i _ hx
    refine ⟨.ref a, by rw [ey, h2], .inl ⟨rfl, vs, SqL.of h3⟩, ?_⟩
    refine KO.exp hv s q fun d m1 v ρ1 H1' H1 s' st1' hk p q => ?_
    have s1 := s'.keep hk
    obtain ⟨y2, ey2, a2, us, k1, k2, k3, z2, r2⟩ := s1.sr.sl i _ hx
    rw [h1] at k1
    cases k1
    split at q
    · rename_i hl
      refine ⟨a, us, v, rfl, rfl, k3, by rw [← r2.len, ← LIM_eq]; exact hl, ?_⟩
      exact q ρ1 O σ _ ⟨s1.sr.wr hx h1 k3 (by rw [List.length_append]; exact hl) (r2.append (Reps.cons p Reps.nil)), s1.kpW (.inr ⟨i, h1⟩), s1.dmW, s1.pre, s1.new, s1.own⟩
    · exact q.elim
  · exact q.elim
/-- out.append(left.pop(v)) -/
theorem sndS_pop {i j : Nat} (hv : Snd C G Wx .bor t A) : SndS C G Wx W (L2.tDrop (L2.tBM G.K "list" L2.rAppend (L2.tVar i) (L2.tCons (L2.tBM G.K "list" L2.rPopAt (L2.tVar j) (L2.tCons t L2.tNil)) L2.tNil))) (.pop i j A) := fun Z b ρ O e m σ H D s q => by
  rw [S.ex1] at q
  split at q
  · rename_i zs xs hz hx
    split at q
    · exact q.elim
    · rename_i hij
      obtain ⟨y, ey, a, vs, h1, h2, h3, z, r⟩ := s.sr.sl i _ hz
      obtain ⟨y', ey', a', vs', h1', h2', h3', z', r'⟩ := s.sr.sl j _ hx
      refine ⟨.ref a, by rw [ey, h2], .inl ⟨rfl, vs, SqL.of h3⟩, .ref a', by rw [ey', h2'], .inl ⟨rfl, vs', SqL.of h3'⟩, ?_⟩
      refine KO.exp hv s q fun d m1 v ρ1 H1' H1 s' st1' hk p q => ?_
      have s1 := s'.keep hk
      cases d with
      | int k =>
        have ev := p.repB.int
        subst ev
        replace q : KO G Wx Z b D (match popAt xs k with
          | some (d, ys) => if zs.length < LIM then .nx ((e.set j (some (.own ys))).set i (some (.own (zs ++ [d])))) m1 else .bad
          | none => .bad) := q
        cases hp : popAt xs k with
        | none => rw [hp] at q; exact q.elim
        | some pr =>
          obtain ⟨d, ys⟩ := pr
          rw [hp] at q
          replace q : KO G Wx Z b D (if zs.length < LIM then .nx ((e.set j (some (.own ys))).set i (some (.own (zs ++ [d])))) m1 else .bad) := q
          split at q
          · rename_i hl
            unfold popAt at hp
            obtain ⟨jx, hj, hp⟩ := Option.bind_eq_some_iff.mp hp
            obtain ⟨d', hd, hp⟩ := Option.map_eq_some_iff.mp hp
            cases hp
            obtain ⟨y2, ey2, a2, us, k1, k2, k3, z2, r2⟩ := s1.sr.sl j _ hx
            rw [h1'] at k1
            cases k1
            obtain ⟨w, hw, rw'⟩ := r2.get hd
            have hj2 : L2.ixN us.length k = some jx := by rw [← r2.len, ← ixN_eq]; exact hj
            obtain ⟨g1, g2, g3, g4⟩ := L2.ixN_seq hj2
            have hlz := z2
            rw [LIM_eq, PySem.sizeLine_eq, r2.len] at hlz
            refine ⟨a', us, k, jx, w, rfl, rfl, k3, by omega, by omega, g1, hw, ?_⟩
            have sj := s1.sr.wr hx h1' k3 (es := xs.eraseIdx jx) (Nat.le_trans (L2.len_erase _ _) z2) (r2.erase jx)
            have kp1 : Kp (Wr Z ρ1 O) H1 (upd H1 a' (.lst (us.eraseIdx jx))) := Kp.wr (.inr (.inr ⟨j, h1'⟩))
            have rd : Rep G (upd H1 a' (.lst (us.eraseIdx jx))) (Wr Z ρ1 O) ρ1 d w := Rep.mono kp1 (fun a h => .inl h) (List.prefix_refl _) _ _ rw'
            have hz' : (e.set j (some (.own (xs.eraseIdx jx))))[i]? = some (some (.own zs)) := by
              rw [List.getElem?_set_ne fun z => hij z.symm]
              exact hz
            obtain ⟨y4, ey4, a4, vs4, j1, j2, j3, z4, r4⟩ := sj.sl i _ hz'
            rw [h1] at j1
            cases j1
            refine ⟨a, vs4, w, rfl, rfl, j3, by rw [← r4.len, ← LIM_eq]; exact hl, ?_⟩
            have sx : StpS G Z b ρ1 O (e.set j (some (.own (xs.eraseIdx jx)))) m1 σ (upd H1 a' (.lst (us.eraseIdx jx))) := ⟨sj, s1.kpW (.inr ⟨j, h1'⟩), s1.dmW, s1.pre, s1.new, s1.own⟩
            exact q ρ1 O σ _ ⟨sj.wr hz' h1 j3 (by rw [List.length_append]; exact hl) (r4.append (Reps.cons rd Reps.nil)), sx.kpW (.inr ⟨i, h1⟩), sx.dmW, s1.pre, s1.new, s1.own⟩
          · exact q.elim
      | _ => exact q.elim
  · exact q.elim
/-! ### raise -/
theorem sndS_raise {c : Nat} {cls : Value} (h : ErrIs G c cls none) : SndS C G Wx W (fun _ σ H => Wx cls none σ H) (.raise c) := fun Z b ρ O e m σ H D s q => by
  rw [S.ex1] at q
  exact q cls none ρ σ H s.fin h
end

/-! ### loops -/
section
variable {C : Cfg} {G : Gl} {Wx : WX} {W : Nat} {k : Kd} {Z : Addr → Prop} {b : Bs} {ρ ρ' : List Addr} {H H' : Hp} {O O' : Nat → Option Addr} {e e' : En} {m m' : M} {σ σ' : L2.St} {D : Ends}
/-- the base of a loop -/
def Bs.at (ρ : List Addr) (O : Nat → Option Addr) (H : Hp) : Bs := ⟨ρ, H, fun a => a ∈ ρ ∨ ∃ i, O i = some a⟩
theorem StpS.w (s : StpS G Z b ρ O e m σ H) {a : Addr} (h : (Bs.at ρ O H).W a) : b.W a ∨ ¬ Lv b.H a := h.elim (s.new a) fun ⟨i, h⟩ => s.own i a h
theorem StpS.base (s : SR G Z ρ O e m σ H) : StpS G Z (Bs.at ρ O H) ρ O e m σ H := ⟨s, fun _ _ h _ _ => h, fun _ h => h, List.prefix_refl _, fun a h => .inl (.inl h), fun i a h => .inl (.inr ⟨i, h⟩)⟩
theorem StpS.comp (s : StpS G Z b ρ O e m σ H) (t : StpS G Z (Bs.at ρ O H) ρ' O' e' m' σ' H') : StpS G Z b ρ' O' e' m' σ' H' :=
  ⟨t.sr, fun a o h n nt => t.kp a o (s.kp a o h n nt) (fun z => (s.w z).elim n fun z => z ⟨o, h, nt⟩) nt, fun a h => t.dm a (s.dm a h), s.pre.trans t.pre, fun a h => (t.new a h).elim (fun z => s.w z) fun z => .inr (fresh_of s.dm z), fun i a h => (t.own i a h).elim (fun z => s.w z) fun z => .inr (fresh_of s.dm z)⟩
theorem StpS.compB (s : StpS G Z b ρ O e m σ H) (t : StpB G Z (Bs.at ρ O H) ρ' m' H') : StpB G Z b ρ' m' H' :=
  ⟨t.mr, fun a o h n nt => t.kp a o (s.kp a o h n nt) (fun z => (s.w z).elim n fun z => z ⟨o, h, nt⟩) nt, fun a h => t.dm a (s.dm a h), s.pre.trans t.pre, fun a h => (t.new a h).elim (fun z => s.w z) fun z => .inr (fresh_of s.dm z)⟩
def forBody (W : Nat) (cf : CF) (t : T) (bd : Ss) (x : _root_.Rf.D) (e' : En) (m' : M) : _root_.Rf.O := match t.put x e' with
  | some e2 => Ss.exs W cf bd e2 m'
  | none => .bad
theorem ex1_fors (cf : CF) (t : T) (It' : E) (bd : Ss) (e : En) (m : M) : (S.fors t It' bd).ex1 W cf e m = (It'.ev cf e m).toO e fun d m1 => match iter? d with
    | some ds => forGo (forBody W cf t bd) ds e m1
    | none => .bad := by
  rw [S.ex1]
  rfl
theorem sndS_fors {wi : TI} {gt : TG} {tb : TS} {tg : T} {It' : E} {bd : Ss} (hi : SndI C G Wx .rep wi It') (hg : SndG G gt tg) (hb : SndSs C G Wx W tb bd) : SndS C G Wx W (L2.tFor wi gt tb) (.fors tg It' bd) := fun Z b ρ O e m σ H D s q => by
  rw [ex1_fors] at q
  refine hi Z ρ O e m σ H _ s.sr ?_
  cases ra : It'.ev C.cf e m with
  | bad => rw [ra] at q; exact q
  | exc c m' =>
    rw [ra] at q
    exact fun cls dx ρ' H' st er => q cls dx ρ' σ H' (s.step st).fin er
  | ok d m' =>
    rw [ra] at q
    replace q : KO G Wx Z b D (match iter? d with
      | some ds => forGo (forBody W C.cf tg bd) ds e m'
      | none => .bad) := q
    unfold KI
    cases hd : iter? d with
    | none => simp only [hd] at q; exact q.elim
    | some ds =>
      simp only [hd] at q ⊢
      intro J ρ1 H1 st wk
      have s1 := s.step st
      refine ⟨fun i mm σc Hc => mm = ds.length - i ∧ i ≤ ds.length ∧ ∃ ρc Oc ec mc, StpS G Z (Bs.at ρ1 O H1) ρc Oc ec mc σc Hc ∧ KO G Wx Z b D (forGo (forBody W C.cf tg bd) (ds.drop i) ec mc), ⟨ds.length, rfl, Nat.zero_le _, ρ1, O, e, m', StpS.base s1.sr, q⟩, ?_⟩
      rintro i mm σc Hc ⟨rfl, hil, ρc, Oc, ec, mc, sc, q⟩
      have hkc : ∀ a o, H1 a = some o → sK .rep Z ρ1 O a → NT o → Hc a = some o := fun a o h n nt => sc.kp a o h (fun z => n (z.elim (fun z => .inr (.inl z)) fun z => .inr (.inr z))) nt
      rcases Nat.lt_or_ge i ds.length with hlt | hge
      · refine .inr ?_
        have hdi : ds[i]? = some ds[i] := List.getElem?_eq_getElem hlt
        obtain ⟨go, yld⟩ := wk.go i Hc (Wr Z ρc Oc) ρc hkc (fun a h => by
          rcases h with h | h | ⟨j, h⟩
          · exact .inl (.inl h)
          · exact (sc.new a h).imp (fun z => .inr z) id
          · exact (sc.own j a h).imp (fun z => .inr z) id) sc.pre (fun a h => sc.sr.wt a h) _ hdi
        refine ⟨go, fun σn Hn => ∃ ρc Oc ec mc, StpS G Z (Bs.at ρ1 O H1) ρc Oc ec mc σn Hn ∧ KO G Wx Z b D (forGo (forBody W C.cf tg bd) (ds.drop (i + 1)) ec mc), fun σn Hn hn => ⟨ds.length - (i + 1), by omega, rfl, hlt, hn⟩, fun x Hy hy => ?_⟩
        obtain ⟨ky, rx⟩ := yld x Hy hy
        have sy := sc.keep ky
        rw [List.drop_eq_getElem_cons hlt, forGo] at q
        unfold forBody at q
        cases hp : tg.put ds[i] ec with
        | none => simp only [hp] at q; exact q.elim
        | some e2 =>
          simp only [hp] at q
          refine hg Z ρc Oc ec mc σc Hy ds[i] x e2 _ sy.sr rx hp fun O' σ2 hO s2 _ _ => ?_
          have s2' : StpS G Z (Bs.at ρ1 O H1) ρc O' e2 mc σ2 Hy := ⟨s2, sy.kp, sy.dm, sy.pre, sy.new, fun j a h => sy.own j a (hO j a h)⟩
          refine hb Z (Bs.at ρ1 O H1) ρc O' e2 mc σ2 Hy _ s2' ?_
          cases rb : Ss.exs W C.cf bd e2 mc with
          | bad => rw [rb] at q; exact q
          | nx e3 m3 =>
            rw [rb] at q
            exact fun ρ3 O3 σ3 H3 s3 => ⟨ρ3, O3, e3, m3, s3, q⟩
          | rt d3 m3 =>
            rw [rb] at q
            exact fun v ρ3 H3 s3 r => q v ρ3 H3 (s1.compB s3) r
          | exc c e3 m3 =>
            rw [rb] at q
            exact fun cls dx ρ3 σ3 H3 s3 er => q cls dx ρ3 σ3 H3 (s1.compB s3) er
      · refine .inl ?_
        have ei : i = ds.length := by omega
        subst ei
        rw [List.drop_length, forGo] at q
        exact ⟨wk.stop Hc hkc, q ρc Oc σc Hc (s1.comp sc)⟩
/-- while -/
theorem sndS_whil {c : TT} {Cn : E} {tb : TS} {bd : Ss} (hc : SndT C G Wx c Cn) (hb : SndSs C G Wx W tb bd) : SndS C G Wx W (L2.tWhile c tb) (.whil Cn bd) := fun Z b ρ O e m σ H D s q => by
  rw [S.ex1] at q
  refine ⟨fun n σc Hc => ∃ ρc Oc ec mc, StpS G Z b ρc Oc ec mc σc Hc ∧ KO G Wx Z b D (whileGo (Cn.ev C.cf) (Ss.exs W C.cf bd) n ec mc), ⟨W, ρ, O, e, m, s, q⟩, ?_⟩
  rintro n σc Hc ⟨ρc, Oc, ec, mc, sc, q⟩
  cases n with
  | zero => rw [whileGo] at q; exact q.elim
  | succ n =>
    rw [whileGo] at q
    refine KO.tst hc sc q (fun d m' h => ?_) fun b' m' ρ' H' s' q' => ?_
    · cases d with
      | bl b => exact absurd rfl (h b)
      | _ => rfl
    · cases b' with
      | false => exact q' ρ' Oc σc H' s'
      | true =>
        refine ⟨fun σn Hn => ∃ ρc Oc ec mc, StpS G Z b ρc Oc ec mc σn Hn ∧ KO G Wx Z b D (whileGo (Cn.ev C.cf) (Ss.exs W C.cf bd) n ec mc), fun σn Hn hn => ⟨n, Nat.lt_succ_self n, hn⟩, ?_⟩
        replace q' : KO G Wx Z b D ((Ss.exs W C.cf bd ec m').bind fun e2 m2 => whileGo (Cn.ev C.cf) (Ss.exs W C.cf bd) n e2 m2) := q'
        refine hb Z b ρ' Oc ec m' σc H' _ s' ?_
        cases rb : Ss.exs W C.cf bd ec m' with
        | bad => rw [rb] at q'; exact q'
        | nx e3 m3 =>
          rw [rb] at q'
          exact fun ρ3 O3 σ3 H3 s3 => ⟨ρ3, O3, e3, m3, s3, q'⟩
        | rt d3 m3 => rw [rb] at q'; exact q'
        | exc c e3 m3 => rw [rb] at q'; exact q'
end
end Rf

/-! RStm2: tuples stored name by name; statements in their contexts. -/
namespace Rf
open PySem (Str Addr Value Pos Expr Stmt Scope Program World Heap Shared CmpOp Operator UnaryOp Obj)
open L2 (V Hp HO SqL SqT Rd upd upd_same upd_ne VK XK TE TT TA TS TG TGs TI WX Cx Ends OpR R2 rI rI0 PE PT PW PA PS PSs PG PGs PI It Inv)
section
variable {C : Cfg} {G : Gl} {Wx : WX} {W : Nat} {k : Kd} {Z : Addr → Prop} {b : Bs} {ρ ρ' : List Addr} {H H' : Hp} {O O' : Nat → Option Addr} {e e' : En} {m m' : M} {σ σ' : L2.St} {D : Ends} {t t2 t3 : TE} {A B A' : E} {As : Es} {tas : TA} {i j l : Nat}
theorem StpS.put {d : _root_.Rf.D} {v : V} (s : StpS G Z b ρ O e m σ H) (hf : e.free i = true) (r : Rep G H (Wr Z ρ O) ρ d v) : StpS G Z b ρ (dropO O i) (e.set i (some (.val d))) m (σ.set i (some v)) H :=
  ⟨s.sr.put (En.free_lt hf) r, s.kp, s.dm, s.pre, s.new, fun j a h => s.own j a (dropO_le j a h)⟩
theorem StpS.ownNew {p : Addr} {ds : List _root_.Rf.D} {vs : List V} (s : StpS G Z b ρ O e m σ H) (hf : e.free i = true) (hp : H p = none) (k : ∀ a u, H a = some u → H' a = some u) (hl : H' p = some (.lst vs)) (z : ds.length ≤ LIM) (r : Reps G H (Wr Z ρ O) ρ ds vs) :
    StpS G Z b ρ (setO O i p) (e.set i (some (.own ds))) m (σ.set i (some (.ref p))) H' := by
  have s2 := s.keep k
  refine ⟨s.sr.own (En.free_lt hf) hp k hl z r, s2.kp, s2.dm, s.pre, s.new, fun j a h => ?_⟩
  by_cases hj : j = i
  · unfold setO at h
    rw [if_pos hj] at h
    cases h
    exact .inr (fresh_of s.dm (nlv hp))
  · rw [setO_ne hj] at h
    exact s.own j a h
theorem KO.args {f : List _root_.Rf.D → M → _root_.Rf.O} {Q : List V → Hp → Prop} (ha : SndA C G Wx tas As) (s : StpS G Z b ρ O e m σ H) {r : _root_.Rf.O} (q : KO G Wx Z b D r) (hr : r = match As.ev C.cf e m with
      | .ok ds m' => f ds m'
      | .exc c m' => .exc c e m'
      | .bad => .bad)
    (ok : ∀ ds m' vs ρ' H', ds.length = As.len → StpS G Z b ρ' O e m' σ H' → Reps G H' (Wr Z ρ' O) ρ' ds vs → KO G Wx Z b D (f ds m') → Q vs H') : tas σ H Q := by
  subst hr
  refine ha Z ρ O e m σ H Q s.sr ?_
  cases ra : As.ev C.cf e m with
  | bad => rw [ra] at q; exact q
  | exc c m' =>
    rw [ra] at q
    exact fun cls dx ρ' H' st er => q cls dx ρ' σ H' (s.step st).fin er
  | ok ds m' =>
    rw [ra] at q
    exact fun vs ρ' H' st p => ok ds m' vs ρ' H' (Es.ev_len As e m ds m' ra) (s.step st) p q
theorem ex1_tup (cf : CF) (ts : List T) (As : Es) (e : En) (m : M) : (S.set (.tp ts) (.op .tup As)).ex1 W cf e m = match As.ev cf e m with
    | .ok ds m' => (match T.puts ts ds e with
      | some e' => .nx e' m'
      | none => .bad)
    | .exc c m' => .exc c e m'
    | .bad => .bad := by
  rw [S.ex1, ev_opN]
  cases As.ev cf e m with
  | ok ds m' =>
    show (match T.put (.tp ts) (.tup ds) e with
      | some e' => _root_.Rf.O.nx e' m'
      | none => .bad) = _
    rw [T.put]
  | exc c m' => rfl
  | bad => rfl
theorem put_nm {d : _root_.Rf.D} {e e' : En} (h : T.put (.nm i) d e = some e') : e.free i = true ∧ e' = e.set i (some (.val d)) := by
  rw [T.put] at h
  split at h
  · rename_i hf
    cases h
    exact ⟨hf, rfl⟩
  · cases h
theorem len2 {α : Type} {ds : List α} (h : ds.length = 2) : ∃ x y, ds = [x, y] := by
  match ds, h with
  | [x, y], _ => exact ⟨x, y, rfl⟩
theorem len3 {α : Type} {ds : List α} (h : ds.length = 3) : ∃ x y z, ds = [x, y, z] := by
  match ds, h with
  | [x, y, z], _ => exact ⟨x, y, z, rfl⟩
/-- a, b = x, y -/
theorem sndS_par (ha : SndA C G Wx tas As) (hl : As.len = 2) : SndS C G Wx W (L2.tPar i j tas) (.set (.tp [.nm i, .nm j]) (.op .tup As)) := fun Z b ρ O e m σ H D s q => by
  rw [ex1_tup] at q
  refine KO.args (f := fun ds m' => match T.puts [.nm i, .nm j] ds e with
      | some e' => .nx e' m'
      | none => .bad) ha s q rfl fun ds m' vs ρ' H' hz s' p q => ?_
  obtain ⟨d1, d2, rfl⟩ := len2 (hz.trans hl)
  obtain ⟨v1, r1, rfl, p1, p⟩ := p.inv_cons
  obtain ⟨v2, r2, rfl, p2, p⟩ := p.inv_cons
  have e0 := p.inv_nil
  subst e0
  cases hp : T.puts [.nm i, .nm j] [d1, d2] e with
  | none => simp only [hp] at q; exact q.elim
  | some e' =>
    simp only [hp] at q
    rw [T.puts] at hp
    obtain ⟨e1, h1, hp⟩ := Option.bind_eq_some_iff.mp hp
    rw [T.puts] at hp
    obtain ⟨e2, h2, hp⟩ := Option.bind_eq_some_iff.mp hp
    rw [T.puts] at hp
    cases hp
    obtain ⟨f1, rfl⟩ := put_nm h1
    obtain ⟨f2, rfl⟩ := put_nm h2
    exact ⟨v1, v2, rfl, q ρ' _ _ H' ((s'.put f1 p1).put f2 (p2.shr dropO_le.w))⟩
theorem sndS_par3 (ha : SndA C G Wx tas As) (hl : As.len = 3) : SndS C G Wx W (L2.tPar3 i j l tas) (.set (.tp [.nm i, .nm j, .nm l]) (.op .tup As)) := fun Z b ρ O e m σ H D s q => by
  rw [ex1_tup] at q
  refine KO.args (f := fun ds m' => match T.puts [.nm i, .nm j, .nm l] ds e with
      | some e' => .nx e' m'
      | none => .bad) ha s q rfl fun ds m' vs ρ' H' hz s' p q => ?_
  obtain ⟨d1, d2, d3, rfl⟩ := len3 (hz.trans hl)
  obtain ⟨v1, r1, rfl, p1, p⟩ := p.inv_cons
  obtain ⟨v2, r2, rfl, p2, p⟩ := p.inv_cons
  obtain ⟨v3, r3, rfl, p3, p⟩ := p.inv_cons
  have e0 := p.inv_nil
  subst e0
  cases hp : T.puts [.nm i, .nm j, .nm l] [d1, d2, d3] e with
  | none => simp only [hp] at q; exact q.elim
  | some e' =>
    simp only [hp] at q
    rw [T.puts] at hp
    obtain ⟨e1, h1, hp⟩ := Option.bind_eq_some_iff.mp hp
    rw [T.puts] at hp
    obtain ⟨e2, h2, hp⟩ := Option.bind_eq_some_iff.mp hp
    rw [T.puts] at hp
    obtain ⟨e3, h3, hp⟩ := Option.bind_eq_some_iff.mp hp
    rw [T.puts] at hp
    cases hp
    obtain ⟨f1, rfl⟩ := put_nm h1
    obtain ⟨f2, rfl⟩ := put_nm h2
    obtain ⟨f3, rfl⟩ := put_nm h3
    exact ⟨v1, v2, v3, rfl, q ρ' _ _ H' (((s'.put f1 p1).put f2 (p2.shr dropO_le.w)).put f3 (p3.shr (dropO_le.trans dropO_le).w))⟩
theorem exs_own0 {cf : CF} {as : Ss} : Ss.exs W cf (.cons (.own j (.op .lst .nil)) as) e m = match e.setSl j (.own []) with
    | some e' => Ss.exs W cf as e' m
    | none => .bad := by
  rw [Ss.exs, S.ex1, ev_opN, Es.ev]
  show _root_.Rf.O.bind (match e.setSl j (.own []) with
    | some e' => _root_.Rf.O.nx e' m
    | none => .bad) _ = _
  cases e.setSl j (.own []) <;> rfl
theorem setSl_of {s : Sl} {e' : En} (h : e.setSl j s = some e') : e.free j = true ∧ e' = e.set j (some s) := by
  unfold En.setSl at h
  split at h
  · rename_i hf
    cases h
    exact ⟨hf, rfl⟩
  · cases h
/-- a, b = x, [] where b's list is its own -/
theorem sndSs_parO {u : TS} {as : Ss} (ha : Snd C G Wx .rep t A) (hb : SndSs C G Wx W u as) : SndSs C G Wx W (L2.tSeq (L2.tPar i j (L2.tCons t (L2.tCons (L2.tLst L2.tNil) L2.tNil))) u) (.cons (.set (.nm i) A) (.cons (.own j (.op .lst .nil)) as)) := fun Z b ρ O e m σ H D s q => by
  rw [Ss.exs, S.ex1] at q
  have q2 : KO G Wx Z b D ((A.ev C.cf e m).toO e fun d m' => match T.put (.nm i) d e with
      | some e' => Ss.exs W C.cf (.cons (.own j (.op .lst .nil)) as) e' m'
      | none => .bad) := by
    cases ra : A.ev C.cf e m with
    | bad => rw [ra] at q; exact q
    | exc c m' => rw [ra] at q; exact q
    | ok d m' =>
      rw [ra] at q
      show KO G Wx Z b D (match T.put (.nm i) d e with
        | some e' => Ss.exs W C.cf (.cons (.own j (.op .lst .nil)) as) e' m'
        | none => .bad)
      replace q : KO G Wx Z b D ((match T.put (.nm i) d e with
        | some e' => _root_.Rf.O.nx e' m'
        | none => .bad).bind fun e' m' => Ss.exs W C.cf (.cons (.own j (.op .lst .nil)) as) e' m') := q
      cases hp : T.put (.nm i) d e with
      | none => rw [hp] at q; exact q
      | some e' => rw [hp] at q; exact q
  refine KO.exp ha s q2 fun d m' v ρ' H1 H' s' st hk p q => ?_
  cases hp : T.put (.nm i) d e with
  | none => simp only [hp] at q; exact q.elim
  | some e1 =>
    simp only [hp] at q
    obtain ⟨f1, rfl⟩ := put_nm hp
    rw [exs_own0] at q
    refine ⟨Nat.zero_le _, fun p0 hp0 => ⟨v, .ref p0, rfl, ?_⟩⟩
    cases h2 : En.setSl (e.set i (some (.val d))) j (.own []) with
    | none => rw [h2] at q; exact q.elim
    | some e2 =>
      rw [h2] at q
      obtain ⟨f2, rfl⟩ := setSl_of h2
      have s2 := (s'.keep hk).put (i := i) f1 p
      exact hb Z b ρ' _ _ m' _ _ D (s2.ownNew f2 hp0 (upd_k hp0) upd_same (Nat.zero_le _) Reps.nil) q
theorem sndSs_parF {u : TS} {as : Ss} (ha : Snd C G Wx .fre t A) (hb : SndSs C G Wx W u as) : SndSs C G Wx W (L2.tSeq (L2.tPar i j (L2.tCons t (L2.tCons (L2.tLst L2.tNil) L2.tNil))) u) (.cons (.own i A) (.cons (.own j (.op .lst .nil)) as)) := fun Z b ρ O e m σ H D s q => by
  rw [Ss.exs, S.ex1] at q
  have q2 : KO G Wx Z b D ((A.ev C.cf e m).toO e fun d m' => match d with
      | .lst xs => (match e.setSl i (.own xs) with
        | some e' => Ss.exs W C.cf (.cons (.own j (.op .lst .nil)) as) e' m'
        | none => .bad)
      | _ => .bad) := by
    cases ra : A.ev C.cf e m with
    | bad => rw [ra] at q; exact q
    | exc c m' => rw [ra] at q; exact q
    | ok d m' =>
      rw [ra] at q
      cases d with
      | lst xs =>
        show KO G Wx Z b D (match e.setSl i (.own xs) with
          | some e' => Ss.exs W C.cf (.cons (.own j (.op .lst .nil)) as) e' m'
          | none => .bad)
        replace q : KO G Wx Z b D ((match e.setSl i (.own xs) with
          | some e' => _root_.Rf.O.nx e' m'
          | none => .bad).bind fun e' m' => Ss.exs W C.cf (.cons (.own j (.op .lst .nil)) as) e' m') := q
        cases hp : e.setSl i (.own xs) with
        | none => rw [hp] at q; exact q
        | some e' => rw [hp] at q; exact q
      | _ => exact q
  refine KO.exp ha s q2 fun d m' v ρ' H1 H' s' st hk p q => ?_
  cases d with
  | lst xs =>
    obtain ⟨p', vs, rfl, e2, e3, z, r⟩ := p.2 xs rfl
    replace q : KO G Wx Z b D (match e.setSl i (.own xs) with
      | some e' => Ss.exs W C.cf (.cons (.own j (.op .lst .nil)) as) e' m'
      | none => .bad) := q
    cases hp : e.setSl i (.own xs) with
    | none => rw [hp] at q; exact q.elim
    | some e1 =>
      rw [hp] at q
      obtain ⟨f1, rfl⟩ := setSl_of hp
      replace q : KO G Wx Z b D (Ss.exs W C.cf (.cons (.own j (.op .lst .nil)) as) (e.set i (some (.own xs))) m') := q
      rw [exs_own0] at q
      refine ⟨Nat.zero_le _, fun p0 hp0 => ⟨.ref p', .ref p0, rfl, ?_⟩⟩
      cases h2 : En.setSl (e.set i (some (.own xs))) j (.own []) with
      | none => rw [h2] at q; exact q.elim
      | some e2 =>
        rw [h2] at q
        obtain ⟨f2, rfl⟩ := setSl_of h2
        have s2 := s'.ownNew (i := i) f1 e2 hk e3 z r
        exact hb Z b ρ' _ _ m' _ _ D (s2.ownNew f2 hp0 (upd_k hp0) upd_same (Nat.zero_le _) Reps.nil) q
  | _ => exact q.elim
theorem sndSs_par3O {u : TS} {as : Ss} (ha : Snd C G Wx .rep t A) (h2 : Snd C G Wx .rep t2 B) (hb : SndSs C G Wx W u as) : SndSs C G Wx W (L2.tSeq (L2.tPar3 i j l (L2.tCons t (L2.tCons t2 (L2.tCons (L2.tLst L2.tNil) L2.tNil)))) u) (.cons (.set (.tp [.nm i, .nm j]) (.op .tup (.cons A (.cons B .nil)))) (.cons (.own l (.op .lst .nil)) as)) := fun Z b ρ O e m σ H D s q => by
  rw [Ss.exs, ex1_tup] at q
  simp only [Es.ev, R.bind] at q
  refine ha Z ρ O e m σ H _ s.sr ?_
  cases ra : A.ev C.cf e m with
  | bad => simp only [ra] at q; exact q
  | exc c m' =>
    simp only [ra] at q
    exact fun cls dx ρ' H' st er => q cls dx ρ' σ H' (s.step st).fin er
  | ok d m' =>
    simp only [ra] at q
    intro v ρ1 H1x H1 st1 hk1 p1
    have s1 := (s.step st1).keep hk1
    refine h2 Z ρ1 O e m' σ H1 _ s1.sr ?_
    cases rb : B.ev C.cf e m' with
    | bad => simp only [rb] at q; exact q
    | exc c m2 =>
      simp only [rb] at q
      exact fun cls dx ρ' H' st er => q cls dx ρ' σ H' (s1.step st).fin er
    | ok d2 m2 =>
      simp only [rb] at q
      intro v2 ρ2 H2x H2 st2 hk2 p2
      have s2 := (s1.step st2).keep hk2
      have st2' := st2.trans s1.sr (.keep st2.sr hk2)
      have p1' : Rep G H2 (Wr Z ρ2 O) ρ2 d v := st2'.rep p1
      cases hp : T.puts [.nm i, .nm j] [d, d2] e with
      | none => simp only [hp] at q; exact q.elim
      | some e' =>
        simp only [hp] at q
        rw [T.puts] at hp
        obtain ⟨e1, h1, hp⟩ := Option.bind_eq_some_iff.mp hp
        rw [T.puts] at hp
        obtain ⟨e2, h2, hp⟩ := Option.bind_eq_some_iff.mp hp
        rw [T.puts] at hp
        cases hp
        obtain ⟨f1, rfl⟩ := put_nm h1
        obtain ⟨f2, rfl⟩ := put_nm h2
        replace q : KO G Wx Z b D (Ss.exs W C.cf (.cons (.own l (.op .lst .nil)) as) ((e.set i (some (.val d))).set j (some (.val d2))) m2) := q
        rw [exs_own0] at q
        refine ⟨Nat.zero_le _, fun p0 hp0 => ⟨v, v2, .ref p0, rfl, ?_⟩⟩
        cases h3 : En.setSl ((e.set i (some (.val d))).set j (some (.val d2))) l (.own []) with
        | none => rw [h3] at q; exact q.elim
        | some e3 =>
          rw [h3] at q
          obtain ⟨f3, rfl⟩ := setSl_of h3
          have s3 := (s2.put f1 p1').put f2 (Rep.shr dropO_le.w p2)
          exact hb Z b ρ2 _ _ m2 _ _ D (s3.ownNew f3 hp0 (upd_k hp0) upd_same (Nat.zero_le _) Reps.nil) q
end
end Rf

/-! RFun: statements in their contexts; a def keeps its promise; all defs of a text. -/
namespace Rf
open PySem (Str Addr Value Pos Expr Stmt Scope Program World Heap Shared CmpOp Operator UnaryOp Obj FuncData)
open L2 (V Hp HO SqL SqT Rd upd upd_same upd_ne VK XK TE TT TA TS TG TGs TI WX Cx Ends OpR R2 rI rI0 PE PT PW PA PS PSs PG PGs PI It Inv)
structure OkB (X : Cx) : Prop where
  ps : PySem.PassesOwn (PySem.model X.prog X.w) X.A X.env X.xe
  st : X.stack = X.env :: X.outer
  fr : X.env.frame = some X.env.locals
def SS (g : Gm) (sc : Scope) (Wx : WX) (W : Nat) (st : Stmt) (s : S) : Prop := ∃ t, (∀ X, Ok g sc Wx X → OkB X → PS X st t) ∧ SndS g.C g.G Wx W t s
def SSs (g : Gm) (sc : Scope) (Wx : WX) (W : Nat) (st : List Stmt) (s : Ss) : Prop := ∃ t, (∀ X, Ok g sc Wx X → OkB X → PSs X st t) ∧ SndSs g.C g.G Wx W t s
section
variable {g : Gm} {sc : Scope} {Wx : WX} {W : Nat} {k : Kd} {tg it a b c e : Expr} {es : List Expr} {A B A' : E} {As : Es} {t : T} {st : Stmt} {sts sts2 : List Stmt} {s : S} {ss ss2 : Ss} {pos p p2 p3 p4 : Pos} {x y z : Str} {i j l : Nat} {u : Int}
/-- what is asked of the env is asked of its scope -/
def envS (sc : Scope) : PySem.Env := { scope := sc, locals := 0, globals := 0, cells := [] }
theorem swaps_env {env env' : PySem.Env} (h : env.scope = env'.scope) (v : Expr) (t : Option Expr) (l : Nat) : PySem.swapsWith v t l env = PySem.swapsWith v t l env' := by
  unfold PySem.swapsWith PySem.Env.blockKind PySem.Env.kindOf
  rw [h]
theorem stores_env {env env' : PySem.Env} (h : env.scope = env'.scope) (ts : List Expr) (v : Expr) : PySem.swappedStores ts v env = PySem.swappedStores ts v env' := by
  unfold PySem.swappedStores PySem.Env.blockKind PySem.Env.kindOf
  rw [h]
theorem sole_env {env env' : PySem.Env} (h : env.scope = env'.scope) (ts : List Expr) (v : Expr) (l : Nat) : PySem.swapsWithSole ts v l env = PySem.swapsWithSole ts v l env' := by
  unfold PySem.swapsWithSole
  split
  · exact swaps_env h _ _ _
  · rfl
theorem sss_nil : SSs g sc Wx W [] .nil := ⟨_, fun X o ob => L2.pss_nil, sndSs_nil⟩
theorem sss_cons (h : SS g sc Wx W st s) (hs : SSs g sc Wx W sts ss) : SSs g sc Wx W (st :: sts) (.cons s ss) := by
  obtain ⟨t1, p1, q1⟩ := h
  obtain ⟨t2, p2, q2⟩ := hs
  exact ⟨_, fun X o ob => L2.pss_cons (p1 X o ob) (p2 X o ob), sndSs_cons q1 q2⟩
theorem sss_frz (hs : SSs g sc Wx W sts ss) : SSs g sc Wx W sts (.cons (.freeze i) ss) := hs.imp fun t h => ⟨h.1, sndSs_frz h.2⟩
theorem ss_pass : SS g sc Wx W (.Pass pos) .pass := ⟨_, fun X o ob => L2.ps_pass, sndS_pass⟩
theorem ss_ret (h : SE g sc Wx .rep e A) : SS g sc Wx W (.Return (some e) pos) (.ret A) := by
  obtain ⟨t, p, q⟩ := h
  exact ⟨_, fun X o ob => L2.ps_ret (p X o), sndS_ret q⟩
theorem ss_retN : SS g sc Wx W (.Return none pos) .retN := ⟨_, fun X o ob => L2.ps_retN, sndS_retN⟩
theorem ss_ex (h : SE g sc Wx k e A) (hs : ∀ env, PySem.swapsWith e none pos.line env = pure false := by intro _; rfl) : SS g sc Wx W (.Expr e pos) (.ex A) := by
  obtain ⟨t, p, q⟩ := h
  exact ⟨_, fun X o ob => L2.ps_expr (p X o) (hs _), sndS_ex q⟩
theorem ss_if (hc : ST g sc Wx c A) (ha : SSs g sc Wx W sts ss) (hb : SSs g sc Wx W sts2 ss2) : SS g sc Wx W (.If c sts sts2 pos) (.ifs A ss ss2) := by
  obtain ⟨tc, pc, qc⟩ := hc
  obtain ⟨ta, pa, qa⟩ := ha
  obtain ⟨tb, pb, qb⟩ := hb
  exact ⟨_, fun X o ob => L2.ps_if (pc X o) (pa X o ob) (pb X o ob), sndS_if qc qa qb⟩
/-- name = e -/
theorem loc_of (o : Ok g sc Wx X) (hl : locB g sc x = true) : L2.Loc X.env.scope x ∧ (X.fn x = true ∨ X.env.scope.names.lookup x = some .local) := by
  rw [o.sc]
  unfold locB at hl
  unfold L2.Loc
  split at hl
  · rename_i q
    exact ⟨.inl q, .inr q⟩
  · rename_i q
    exact ⟨.inr q, .inl (o.fn x hl)⟩
  · cases hl
theorem ss_set (hN : g.N[i]? = some x) (hl : locB g sc x = true) (h : SE g sc Wx .rep e A) (hs : PySem.swapsWith e (some (.Name x p)) pos.line (envS sc) = pure false := by rfl) : SS g sc Wx W (.Assign [.Name x p] e pos) (.set (.nm i) A) := by
  obtain ⟨t, pe, q⟩ := h
  exact ⟨_, fun X o ob => L2.ps_set (i := i) (by rw [o.N]; exact g.nd) (by rw [o.N]; exact hN) (loc_of o hl).1 (pe X o) (by rw [swaps_env (env' := envS sc) o.sc]; exact hs) (loc_of o hl).2, sndS_set q sndG_nm⟩
theorem ss_own (hN : g.N[i]? = some x) (hl : locB g sc x = true) (h : SE g sc Wx .fre e A) (hs : PySem.swapsWith e (some (.Name x p)) pos.line (envS sc) = pure false := by rfl) : SS g sc Wx W (.Assign [.Name x p] e pos) (.own i A) := by
  obtain ⟨t, pe, q⟩ := h
  exact ⟨_, fun X o ob => L2.ps_set (i := i) (by rw [o.N]; exact g.nd) (by rw [o.N]; exact hN) (loc_of o hl).1 (pe X o) (by rw [swaps_env (env' := envS sc) o.sc]; exact hs) (loc_of o hl).2, sndS_own q⟩
/-- a target, a value -/
theorem ss_asg (hg : SG g sc Wx tg t) (h : SE g sc Wx .rep e A) (hs : PySem.swapsWithSole [tg] e pos.line (envS sc) = pure false := by rfl) (hw : PySem.swappedStores [tg] e (envS sc) = pure none := by rfl) (h1 : ∀ env, (PySem.assignEach [tg] env).map (·.2) = [PySem.assign tg env] := by intro _; rfl) : SS g sc Wx W (.Assign [tg] e pos) (.set t A) := by
  obtain ⟨tt, pe, q⟩ := h
  obtain ⟨gt, pg, qg⟩ := hg
  exact ⟨_, fun X o ob => L2.ps_asg (pe X o) (pg X o) (by rw [sole_env (env' := envS sc) o.sc]; exact hs) (by rw [stores_env (env' := envS sc) o.sc]; exact hw) (h1 _), sndS_set q qg⟩
/-- name = [..], one line -/
def swLine (py pos : Pos) : Bool := py.line == pos.line
section
variable {elt iter : Expr} {ifs : List Expr} {Elt It' Cnd : E} {scope : Scope} {own : List (Str × Nat)} {spos py : Pos} {X : Cx}
theorem lc_set (hN : g.N[i]? = some y) (hy : sc.names.lookup y = some .local) (hi : SI g sc Wx .bor tg iter It') (hg : SG (g.blk scope) (L2.relS scope sc) nox tg t) (ht : STs (g.blk scope) (L2.relS scope sc) nox ifs Cnd) (he : SE (g.blk scope) (L2.relS scope sc) nox .rep elt Elt) (ok : L2.BlkOk g.N sc scope own) (hsl : ∀ i ∈ t.slots, i ∈ own.map (·.2))
    (hsw : PySem.swapsWith (.ListComp elt [⟨tg, iter, ifs, 0⟩] scope pos) (some (.Name y py)) spos.line (envS sc) = pure true) (hs : ∀ (env : PySem.Env) x, PySem.foldedSetIterable iter env x = pure x := by intros; rfl) :
    ∃ t', (∀ X, Ok g sc Wx X → PS X (.Assign [.Name y py] (.ListComp elt [⟨tg, iter, ifs, 0⟩] scope pos) spos) (L2.tAsg t' (L2.gName i))) ∧ Snd g.C g.G Wx .fre t' (.comp Elt t It' Cnd (own.map (·.2))) := by
  obtain ⟨wi, pi, qi⟩ := hi
  obtain ⟨gt, pg, qg⟩ := hg
  obtain ⟨tt, pt, qt⟩ := ht
  obtain ⟨te, pe, qe⟩ := he
  exact ⟨_, fun X o => L2.ps_setLc (own := own) o.calm (by rw [o.N]; exact g.nd) (by rw [o.N]; exact hN) (by rw [o.sc]; exact hy) (by rw [swaps_env (env' := envS sc) o.sc]; exact hsw) (pi X o) (by rw [o.N, o.sc]; exact ok) (fun s H C cl fp => pg _ (o.blk s H C cl fp)) (fun s H C cl fp => pt _ (o.blk s H C cl fp)) (fun s H C cl fp => pe _ (o.blk s H C cl fp)) (hs X.env), snd_comp qi qg qt qe hsl⟩
theorem ss_setLc (hN : g.N[i]? = some y) (hy : sc.names.lookup y = some .local) (hi : SI g sc Wx .bor tg iter It') (hg : SG (g.blk scope) (L2.relS scope sc) nox tg t) (ht : STs (g.blk scope) (L2.relS scope sc) nox ifs Cnd) (he : SE (g.blk scope) (L2.relS scope sc) nox .rep elt Elt) (ok : L2.BlkOk g.N sc scope own) (hsl : ∀ i ∈ t.slots, i ∈ own.map (·.2))
    (hsw : PySem.swapsWith (.ListComp elt [⟨tg, iter, ifs, 0⟩] scope pos) (some (.Name y py)) spos.line (envS sc) = pure true) (hs : ∀ (env : PySem.Env) x, PySem.foldedSetIterable iter env x = pure x := by intros; rfl) :
    SS g sc Wx W (.Assign [.Name y py] (.ListComp elt [⟨tg, iter, ifs, 0⟩] scope pos) spos) (.set (.nm i) (.comp Elt t It' Cnd (own.map (·.2)))) := by
  obtain ⟨t', h1, h2⟩ := lc_set hN hy hi hg ht he ok hsl hsw hs
  exact ⟨_, fun X o ob => h1 X o, sndS_set h2.of_fre sndG_nm⟩
theorem ss_ownLc (hN : g.N[i]? = some y) (hy : sc.names.lookup y = some .local) (hi : SI g sc Wx .bor tg iter It') (hg : SG (g.blk scope) (L2.relS scope sc) nox tg t) (ht : STs (g.blk scope) (L2.relS scope sc) nox ifs Cnd) (he : SE (g.blk scope) (L2.relS scope sc) nox .rep elt Elt) (ok : L2.BlkOk g.N sc scope own) (hsl : ∀ i ∈ t.slots, i ∈ own.map (·.2))
    (hsw : PySem.swapsWith (.ListComp elt [⟨tg, iter, ifs, 0⟩] scope pos) (some (.Name y py)) spos.line (envS sc) = pure true) (hs : ∀ (env : PySem.Env) x, PySem.foldedSetIterable iter env x = pure x := by intros; rfl) :
    SS g sc Wx W (.Assign [.Name y py] (.ListComp elt [⟨tg, iter, ifs, 0⟩] scope pos) spos) (.own i (.comp Elt t It' Cnd (own.map (·.2)))) := by
  obtain ⟨t', h1, h2⟩ := lc_set hN hy hi hg ht he ok hsl hsw hs
  exact ⟨_, fun X o ob => h1 X o, sndS_own h2⟩
end
/-- a, b = x, y -/
theorem ss_par {px py pt pos2 : Pos} {kt k2 : Nat} (hi : g.N[i]? = some x) (hj : g.N[j]? = some y) (hij : (i == j) = false) (hx : sc.names.lookup x = some .local) (hy : sc.names.lookup y = some .local) (ha : SA g sc Wx [a, b] As) (hl : As.len = 2)
    (hw : PySem.swappedStores [.Tuple [.Name x px, .Name y py] kt pt] (.Tuple [a, b] k2 pos2) (envS sc) = pure (some [x, y])) : SS g sc Wx W (.Assign [.Tuple [.Name x px, .Name y py] kt pt] (.Tuple [a, b] k2 pos2) pos) (.set (.tp [.nm i, .nm j]) (.op .tup As)) := by
  obtain ⟨t, pa, qa⟩ := ha
  exact ⟨_, fun X o ob => L2.ps_par (i := i) (j := j) o.calm (by rw [o.N]; exact g.nd) (by rw [o.N]; exact hi) (by rw [o.N]; exact hj) (fun z => by rw [z] at hij; simp at hij) (by rw [o.sc]; exact hx) (by rw [o.sc]; exact hy) (pa X o) (by rw [stores_env (env' := envS sc) o.sc]; exact hw), sndS_par qa hl⟩
theorem ss_par3 {px py pz pt pos2 : Pos} {kt k2 : Nat} (hi : g.N[i]? = some x) (hj : g.N[j]? = some y) (hl : g.N[l]? = some z) (hij : (i == j) = false) (hil : (i == l) = false) (hjl : (j == l) = false) (hx : sc.names.lookup x = some .local) (hy : sc.names.lookup y = some .local) (hz : sc.names.lookup z = some .local) (ha : SA g sc Wx [a, b, c] As) (hn : As.len = 3)
    (hw : PySem.swappedStores [.Tuple [.Name x px, .Name y py, .Name z pz] kt pt] (.Tuple [a, b, c] k2 pos2) (envS sc) = pure (some [x, y, z])) : SS g sc Wx W (.Assign [.Tuple [.Name x px, .Name y py, .Name z pz] kt pt] (.Tuple [a, b, c] k2 pos2) pos) (.set (.tp [.nm i, .nm j, .nm l]) (.op .tup As)) := by
  obtain ⟨t, pa, qa⟩ := ha
  exact ⟨_, fun X o ob => L2.ps_par3 (i := i) (j := j) (l := l) o.calm (by rw [o.N]; exact g.nd) (by rw [o.N]; exact hi) (by rw [o.N]; exact hj) (by rw [o.N]; exact hl) (fun z => by rw [z] at hij; simp at hij) (fun z => by rw [z] at hil; simp at hil) (fun z => by rw [z] at hjl; simp at hjl) (by rw [o.sc]; exact hx) (by rw [o.sc]; exact hy) (by rw [o.sc]; exact hz) (pa X o) (by rw [stores_env (env' := envS sc) o.sc]; exact hw), sndS_par3 qa hn⟩
/-- .. the last one an empty list of its own -/
theorem sss_parO {px py pt pos2 pl : Pos} {kt k2 : Nat} (hi : g.N[i]? = some x) (hj : g.N[j]? = some y) (hij : (i == j) = false) (hx : sc.names.lookup x = some .local) (hy : sc.names.lookup y = some .local) (ha : SE g sc Wx .rep a A) (hs : SSs g sc Wx W sts ss)
    (hw : PySem.swappedStores [.Tuple [.Name x px, .Name y py] kt pt] (.Tuple [a, .List [] pl] k2 pos2) (envS sc) = pure (some [x, y])) (hst : ∀ env : PySem.Env, PySem.starEach [a, .List [] pl] env = (false, PySem.eval a env) :: PySem.starEach [.List [] pl] env := by intro _; rfl) : SSs g sc Wx W (.Assign [.Tuple [.Name x px, .Name y py] kt pt] (.Tuple [a, .List [] pl] k2 pos2) pos :: sts) (.cons (.set (.nm i) A) (.cons (.own j (.op .lst .nil)) ss)) := by
  obtain ⟨t, pa, qa⟩ := ha
  obtain ⟨t2, p2, q2⟩ := hs
  exact ⟨_, fun X o ob => L2.pss_cons (L2.ps_par (i := i) (j := j) o.calm (by rw [o.N]; exact g.nd) (by rw [o.N]; exact hi) (by rw [o.N]; exact hj) (fun z => by rw [z] at hij; simp at hij) (by rw [o.sc]; exact hx) (by rw [o.sc]; exact hy) (L2.pa_cons (pa X o) (L2.pa_cons (L2.pe_lst L2.pa_nil) L2.pa_nil) (hst _)) (by rw [stores_env (env' := envS sc) o.sc]; exact hw)) (p2 X o ob), sndSs_parO qa q2⟩
theorem sss_parF {px py pt pos2 pl : Pos} {kt k2 : Nat} (hi : g.N[i]? = some x) (hj : g.N[j]? = some y) (hij : (i == j) = false) (hx : sc.names.lookup x = some .local) (hy : sc.names.lookup y = some .local) (ha : SE g sc Wx .fre a A) (hs : SSs g sc Wx W sts ss)
    (hw : PySem.swappedStores [.Tuple [.Name x px, .Name y py] kt pt] (.Tuple [a, .List [] pl] k2 pos2) (envS sc) = pure (some [x, y])) (hst : ∀ env : PySem.Env, PySem.starEach [a, .List [] pl] env = (false, PySem.eval a env) :: PySem.starEach [.List [] pl] env := by intro _; rfl) : SSs g sc Wx W (.Assign [.Tuple [.Name x px, .Name y py] kt pt] (.Tuple [a, .List [] pl] k2 pos2) pos :: sts) (.cons (.own i A) (.cons (.own j (.op .lst .nil)) ss)) := by
  obtain ⟨t, pa, qa⟩ := ha
  obtain ⟨t2, p2, q2⟩ := hs
  exact ⟨_, fun X o ob => L2.pss_cons (L2.ps_par (i := i) (j := j) o.calm (by rw [o.N]; exact g.nd) (by rw [o.N]; exact hi) (by rw [o.N]; exact hj) (fun z => by rw [z] at hij; simp at hij) (by rw [o.sc]; exact hx) (by rw [o.sc]; exact hy) (L2.pa_cons (pa X o) (L2.pa_cons (L2.pe_lst L2.pa_nil) L2.pa_nil) (hst _)) (by rw [stores_env (env' := envS sc) o.sc]; exact hw)) (p2 X o ob), sndSs_parF qa q2⟩
theorem sss_par3O {px py pz pt pos2 pl : Pos} {kt k2 : Nat} (hi : g.N[i]? = some x) (hj : g.N[j]? = some y) (hl : g.N[l]? = some z) (hij : (i == j) = false) (hil : (i == l) = false) (hjl : (j == l) = false) (hx : sc.names.lookup x = some .local) (hy : sc.names.lookup y = some .local) (hz : sc.names.lookup z = some .local) (ha : SE g sc Wx .rep a A) (hb : SE g sc Wx .rep b B) (hs : SSs g sc Wx W sts ss)
    (hw : PySem.swappedStores [.Tuple [.Name x px, .Name y py, .Name z pz] kt pt] (.Tuple [a, b, .List [] pl] k2 pos2) (envS sc) = pure (some [x, y, z])) (hst : ∀ env : PySem.Env, PySem.starEach [a, b, .List [] pl] env = (false, PySem.eval a env) :: PySem.starEach [b, .List [] pl] env := by intro _; rfl) (hst2 : ∀ env : PySem.Env, PySem.starEach [b, .List [] pl] env = (false, PySem.eval b env) :: PySem.starEach [.List [] pl] env := by intro _; rfl) :
    SSs g sc Wx W (.Assign [.Tuple [.Name x px, .Name y py, .Name z pz] kt pt] (.Tuple [a, b, .List [] pl] k2 pos2) pos :: sts) (.cons (.set (.tp [.nm i, .nm j]) (.op .tup (.cons A (.cons B .nil)))) (.cons (.own l (.op .lst .nil)) ss)) := by
  obtain ⟨t, pa, qa⟩ := ha
  obtain ⟨tb, pb, qb⟩ := hb
  obtain ⟨t2, p2, q2⟩ := hs
  exact ⟨_, fun X o ob => L2.pss_cons (L2.ps_par3 (i := i) (j := j) (l := l) o.calm (by rw [o.N]; exact g.nd) (by rw [o.N]; exact hi) (by rw [o.N]; exact hj) (by rw [o.N]; exact hl) (fun z => by rw [z] at hij; simp at hij) (fun z => by rw [z] at hil; simp at hil) (fun z => by rw [z] at hjl; simp at hjl) (by rw [o.sc]; exact hx) (by rw [o.sc]; exact hy) (by rw [o.sc]; exact hz) (L2.pa_cons (pa X o) (L2.pa_cons (pb X o) (L2.pa_cons (L2.pe_lst L2.pa_nil) L2.pa_nil) (hst2 _)) (hst _)) (by rw [stores_env (env' := envS sc) o.sc]; exact hw)) (p2 X o ob), sndSs_par3O qa qb q2⟩
/-- xs[i] = v, source[i] = v -/
theorem ss_setIx (hN : g.N[i]? = some x) (hv : vis sc x = true) (ha : SE g sc Wx .rep a A) (hb : SE g sc Wx .bor b B) (hd : (x == ("__debug__" : Str)) = false := by decide) (hcd : (x == ("__classdict__" : Str)) = false := by decide)
    (has : ∀ env v, PySem.assign (.Subscript (.Name x p2) b p) env v = (do
      let ov ← PySem.holding [v] (PySem.eval (.Name x p2) env)
      let iv ← PySem.holding [v, ov] (PySem.eval b env)
      PySem.standAt p
      PySem.holding [v, ov, iv] (PySem.setItem ov iv v)
      PySem.release [v, ov, iv] []) := by intros; rfl)
    (hs : PySem.swapsWithSole [.Subscript (.Name x p2) b p] a pos.line (envS sc) = pure false := by rfl) (hw : PySem.swappedStores [.Subscript (.Name x p2) b p] a (envS sc) = pure none := by rfl) (h1 : ∀ env, (PySem.assignEach [.Subscript (.Name x p2) b p] env).map (·.2) = [PySem.assign (.Subscript (.Name x p2) b p) env] := by intro _; rfl) :
    SS g sc Wx W (.Assign [.Subscript (.Name x p2) b p] a pos) (.setIx i B A) := by
  obtain ⟨t, pa, qa⟩ := ha
  obtain ⟨tb, pb, qb⟩ := hb
  exact ⟨_, fun X o ob => L2.ps_asg (pa X o) (L2.pg_sub (L2.pe_var (i := i) (by rw [o.N]; exact hN) (o.vis hv) hd hcd) (pb X o) L2.set_list (has _)) (by rw [sole_env (env' := envS sc) o.sc]; exact hs) (by rw [stores_env (env' := envS sc) o.sc]; exact hw) (h1 _), sndS_setIx qa qb⟩
theorem ss_msetIx (ha : SE g sc Wx .rep a A) (hc : SE g sc Wx .rep c A') (hb : SE g sc Wx .bor b B)
    (has : ∀ env v, PySem.assign (.Subscript c b p) env v = (do
      let ov ← PySem.holding [v] (PySem.eval c env)
      let iv ← PySem.holding [v, ov] (PySem.eval b env)
      PySem.standAt p
      PySem.holding [v, ov, iv] (PySem.setItem ov iv v)
      PySem.release [v, ov, iv] []) := by intros; rfl)
    (hs : PySem.swapsWithSole [.Subscript c b p] a pos.line (envS sc) = pure false := by rfl) (hw : PySem.swappedStores [.Subscript c b p] a (envS sc) = pure none := by rfl) (h1 : ∀ env, (PySem.assignEach [.Subscript c b p] env).map (·.2) = [PySem.assign (.Subscript c b p) env] := by intro _; rfl) :
    SS g sc Wx W (.Assign [.Subscript c b p] a pos) (.msetIx A' B A) := by
  obtain ⟨t, pa, qa⟩ := ha
  obtain ⟨tb, pb, qb⟩ := hb
  obtain ⟨tc, pc, qc⟩ := hc
  exact ⟨_, fun X o ob => L2.ps_asg (pa X o) (L2.pg_sub (pc X o) (pb X o) L2.set_list (has _)) (by rw [sole_env (env' := envS sc) o.sc]; exact hs) (by rw [stores_env (env' := envS sc) o.sc]; exact hw) (h1 _), sndS_msetIx qa qc qb⟩
theorem ss_append {q1 q2 q3 : Pos} (hN : g.N[i]? = some x) (hv : vis sc x = true) (ha : SE g sc Wx .rep a A) (hd : (x == ("__debug__" : Str)) = false := by decide) (hcd : (x == ("__classdict__" : Str)) = false := by decide) (hs : ∀ env : PySem.Env, PySem.starEach [a] env = [(false, PySem.eval a env)] := by intro _; rfl)
    (hbase : ∀ env, PySem.attributeBase (.Name x q1) "append" env (PySem.eval (.Name x q1) env) = PySem.eval (.Name x q1) env := by intro _; rfl) (hline : (q2.endLine == q3.line) = true := by rfl) (hsw : ∀ env, PySem.swapsWith (.Call (.Attribute (.Name x q1) "append" q2) [a] [] q3) none pos.line env = pure false := by intro _; rfl) :
    SS g sc Wx W (.Expr (.Call (.Attribute (.Name x q1) "append" q2) [a] [] q3) pos) (.append i A) := by
  obtain ⟨t, pa, qa⟩ := ha
  refine ⟨_, fun X o ob => L2.ps_expr ?_ (hsw _), sndS_append qa⟩
  have h := L2.pe_bm (r := L2.rAppend) (apos := q2) (cpos := q3) PySem.F.plainAttrs_list PySem.F.slot_list_append PySem.F.type_list_append (L2.mt_append (X := X)) (L2.pe_var (i := i) (pos := q1) (by rw [o.N]; exact hN) (o.vis hv) hd hcd) (pa_any1 (pa X o) (hs _)) (hbase _) (by rw [hs] <;> rfl) hline (hs _) rfl
  rw [o.K] at h
  exact h
theorem ss_pop {q1 q2 q3 q4 q5 q6 : Pos} (hN : g.N[i]? = some x) (hv : vis sc x = true) (hN2 : g.N[j]? = some y) (hv2 : vis sc y = true) (ha : SE g sc Wx .bor a A) (hd : (x == ("__debug__" : Str)) = false := by decide) (hcd : (x == ("__classdict__" : Str)) = false := by decide) (hd2 : (y == ("__debug__" : Str)) = false := by decide) (hcd2 : (y == ("__classdict__" : Str)) = false := by decide) (hs : ∀ env : PySem.Env, PySem.starEach [a] env = [(false, PySem.eval a env)] := by intro _; rfl)
    (hbase : ∀ env, PySem.attributeBase (.Name x q1) "append" env (PySem.eval (.Name x q1) env) = PySem.eval (.Name x q1) env := by intro _; rfl) (hline : (q2.endLine == q3.line) = true := by rfl) (hbase2 : ∀ env, PySem.attributeBase (.Name y q4) "pop" env (PySem.eval (.Name y q4) env) = PySem.eval (.Name y q4) env := by intro _; rfl) (hline2 : (q5.endLine == q6.line) = true := by rfl)
    (hsw : ∀ env, PySem.swapsWith (.Call (.Attribute (.Name x q1) "append" q2) [.Call (.Attribute (.Name y q4) "pop" q5) [a] [] q6] [] q3) none pos.line env = pure false := by intro _; rfl) :
    SS g sc Wx W (.Expr (.Call (.Attribute (.Name x q1) "append" q2) [.Call (.Attribute (.Name y q4) "pop" q5) [a] [] q6] [] q3) pos) (.pop i j A) := by
  obtain ⟨t, pa, qa⟩ := ha
  refine ⟨_, fun X o ob => L2.ps_expr ?_ (hsw _), sndS_pop qa⟩
  have h2 := L2.pe_bm (r := L2.rPopAt) (apos := q5) (cpos := q6) PySem.F.plainAttrs_list PySem.F.slot_list_pop PySem.F.type_list_pop (L2.mt_popAt (X := X)) (L2.pe_var (i := j) (pos := q4) (by rw [o.N]; exact hN2) (o.vis hv2) hd2 hcd2) (pa_any1 (pa X o) (hs _)) (hbase2 _) (by rw [hs] <;> rfl) hline2 (hs _) rfl
  have h := L2.pe_bm (r := L2.rAppend) (apos := q2) (cpos := q3) PySem.F.plainAttrs_list PySem.F.slot_list_append PySem.F.type_list_append (L2.mt_append (X := X)) (L2.pe_var (i := i) (pos := q1) (by rw [o.N]; exact hN) (o.vis hv) hd hcd) (pa_any1 h2 rfl) (hbase _) rfl hline rfl rfl
  rw [o.K] at h
  exact h
/-- loops -/
theorem ss_for (hi : SI g sc Wx .rep tg it A) (hg : SG g sc Wx tg t) (hb : SSs g sc Wx W sts ss) (hs : ∀ (env : PySem.Env) x, PySem.foldedSetIterable it env x = pure x := by intros; rfl) : SS g sc Wx W (.For tg it sts [] pos) (.fors t A ss) := by
  obtain ⟨wi, pi, qi⟩ := hi
  obtain ⟨gt, pg, qg⟩ := hg
  obtain ⟨tb, pb, qb⟩ := hb
  exact ⟨_, fun X o ob => L2.ps_for ob.ps o.calm (pi X o) (pg X o) (pb X o ob) (hs X.env), sndS_fors qi qg qb⟩
theorem ss_while (hc : ST g sc Wx c A) (hb : SSs g sc Wx W sts ss) : SS g sc Wx W (.While c sts [] pos) (.whil A ss) := by
  obtain ⟨tc, pc, qc⟩ := hc
  obtain ⟨tb, pb, qb⟩ := hb
  exact ⟨_, fun X o ob => L2.ps_while ob.ps (pc X o) (pb X o ob), sndS_whil qc qb⟩
/-- raise X('m') -/
structure ErrOk (g : Gm) (n : Nat) (x : Str) : Prop where
  ex : ∃ (C : Addr) (bmB : List Value) (B newId initId : String), PySem.ExcBaseFacts B newId initId bmB ∧ PySem.W.excIn g.K C bmB newId = true ∧ g.mg x = some (.ref C) ∧ PySem.W.keepIn g.K (.ref C) = true ∧ PySem.W.subIn g.K (.ref C) (.type "BaseException") = some true ∧ PySem.W.typeIn g.K (.ref C) = some (.type "type") ∧ g.C.nm.er n = some x
theorem ss_raise {n : Nat} {ms : Str} {q1 q2 q3 : Pos} (h : ErrOk g n x) (hg : sc.names.lookup x = some .globalImplicit) (hdb : (x == ("__debug__" : Str)) = false := by decide) : SS g sc Wx W (.Raise (some (.Call (.Name x q1) [.Constant (.str ms) j q2] [] q3)) none pos) (.raise n) := by
  obtain ⟨C, bmB, B, newId, initId, F, q, gC, kC, r1, r2, er⟩ := h.ex
  refine ⟨_, fun X o ob => ?_, sndS_raise ⟨rfl, x, C, er, gC, rfl⟩⟩
  exact L2N.ps_raise o.calm o.tk (L2N.pmk_own F (by rw [o.K]; exact q) (by rw [o.mg]; exact gC) (by rw [o.K]; exact kC) (L2.raises_own (by rw [o.K]; exact r1) (by rw [o.K]; exact r2)) (o.gl hg) hdb)
end
end Rf

/-! RLam: a lambda handed to the def that calls it and tells the error's word. -/
namespace Rf
open PySem (Str Addr Value Pos Expr Stmt Scope Program World Heap Shared CmpOp Operator UnaryOp Obj FuncData Arguments Around Env)
open L2 (V Hp HO SqL SqT Rd upd upd_same upd_ne VK XK TE TT TA TS TG TGs TI WX Cx Ends OpR R2 rI rI0 PE PT PW PA PS PSs PG PGs PI It Inv)
/-- what the caller of the lambda wishes of an exception -/
def EX (G : Gl) (Q : VK) : XK := fun cls dx H' => ∃ c, ErrIs G c cls dx ∧ ∀ H'', (∀ a u, H' a = some u → H'' a = some u) → Q (vstr (errWord c)) H''
def TTref (G : Gl) : (XK → Hp → VK → Prop) → Hp → VK → Prop := fun tl H Q => tl (EX G Q) H (fun _ H' => Q (vstr []) H')
section
variable {C : Cfg} {G : Gl} {Wx : WX} {Z : Addr → Prop} {ρ ρ' : List Addr} {O : Nat → Option Addr} {e : En} {m m' : M} {σ : L2.St} {H H1 : Hp}
theorem SR.ext (s : SR G Z ρ O e m σ H) (k : ∀ a o, H a = some o → NT o → H1 a = some o) (tb : LamX.Tabs G.tb H1) : Stp G Z O e σ ρ H ρ m H1 := by
  have dm : ∀ a, Lv H a → Lv H1 a := fun a ⟨o, h, n⟩ => ⟨o, k a o h n, n⟩
  exact ⟨s.move tb (fun a h => dm a (s.mr.zt a h)) s.mr.zr (fun i a h => (s.oz i a h).1) (fun a o h _ nt => k a o h nt) (fun a vs _ h => k _ _ h nt_lst) (fun a h => .inl h) (fun i a h => dm a (s.ot i a h)), fun a o h _ nt => k a o h nt, dm, List.prefix_refl _, fun a h => .inl h⟩
theorem errWord_ok (c : Nat) : strOk (errWord c) := by
  have h : (errWord c).length ≤ 10 ∧ ∀ x ∈ errWord c, x < 200 := by
    unfold errWord
    split <;> decide
  exact ⟨Nat.le_trans h.1 (by decide), fun x hx => Nat.lt_trans (h.2 x hx) (by decide)⟩
theorem snd_refused {k : Kd} {t : XK → TE} {A : E} (ht : ∀ E : XK, Snd C G (fun cls d _ H => E cls d H) k (t E) A) : Snd C G Wx .rep (LamX.tLam G.tb (TTref G) t) (.refused A) := by
  intro Z ρ O e m σ H Q s q
  rw [E.ev] at q
  refine ⟨s.mr.tb, fun H1 eN T1 => ?_⟩
  have st0 : Stp G Z O e σ ρ H ρ m H1 := s.ext (fun a o h n => eN a o h n) T1
  show t (EX G Q) σ H1 (fun _ H' => Q (vstr []) H')
  refine ht (EX G Q) Z ρ O e m σ H1 _ st0.sr ?_
  cases ra : A.ev C.cf e m with
  | bad => rw [ra] at q; exact q
  | ok d m' =>
    rw [ra] at q
    replace q : KE G Wx .rep Z O e σ ρ H Q (.ok (.str []) m') := q
    intro v ρ' Hx H' st hk pv
    have st1 := st0.trans s (st.trans st0.sr (.keep st.sr hk))
    have so : strOk [] := ⟨Nat.zero_le _, fun c hc => absurd hc (by simp)⟩
    exact q (vstr []) ρ' H' H' st1 keep_refl (prep (rep_str so))
  | exc c m' =>
    rw [ra] at q
    replace q : KE G Wx .rep Z O e σ ρ H Q (.ok (.str (errWord c)) m') := q
    intro cls dx ρ' H' st er
    refine ⟨c, er, fun H'' k => ?_⟩
    have st1 := st0.trans s (st.trans st0.sr (.keep st.sr k))
    exact q (vstr (errWord c)) ρ' H'' H'' st1 keep_refl (prep (rep_str (errWord_ok c)))
end
section
variable {X : Cx} {pins : List (Addr × Obj)} {σ : L2.St} {H : Hp} {s : Shared}
open PySem (wpAny model codeAny)
/-- the lambda's context, its exceptions told with their contexts -/
abbrev lamN (X : Cx) (A : Around) (outer : List Env) (s : Shared) (H : Hp) (E : XK) (scope : Scope) (f c' : Addr) : Cx :=
  (LamX.lamCx X A outer s H E scope f c').wish fun e s' => wpAny (model X.prog X.w) (A.deeper (LamX.lamEnv X scope s.heap.objs.size f c')) (PySem.leaving (LamX.lamEnv X scope s.heap.objs.size f c') e) (fun _ s'' => L2N.CX X.prog X.w outer H s E e s'') (fun e' s'' => L2N.CX X.prog X.w outer H s E e' s'') s'
theorem pe_actN {CXg : L2.CXT} {Eg : XK} {Ng : List Str} {qg : Str} {sg : Scope} {g f c' : Addr} {cdg pm ctv : Value} {params : Arguments} {body : Expr} {scope : Scope} {k i : Nat} {a : Str} {pn : List (Addr × Obj)} {xe : Value → Shared → Prop} {W : WX} {E : XK} {tb : TE} {p1 p2 : Pos}
    (I : Inv X pins σ H s) (L : LamX.LamS X.env.scope scope) (hf : s.heap.get? f = some (PySem.W.kla_obj "<lambda>" (X.env.qual ++ "<lambda>") params body scope (L2.cloFrom X.env.cells scope.names []) pm c' ctv)) (hfn : H f = none) (hfr : f ∉ L2.frs X.stack)
    (hbind : PySem.bindArgs (PySem.W.kla_fn "<lambda>" (X.env.qual ++ "<lambda>") params body scope (L2.cloFrom X.env.cells scope.names []) pm (.ref c') ctv) ⟨[], []⟩ = pure [])
    (tk : L2N.Takes ((L2.cxOf CXg X.prog X.w X.K X.mg X.base Ng qg sg g cdg X.A X.stack s H Eg).tr pn xe) W) (hW : ∀ cls d σ' H', E cls d H' → W cls d σ' H') (hr : L2.Room (k + 1) (X.A.deeper (PyProof.Rows.envOfC qg sg s.heap.objs.size g cdg)))
    (hbody : ∀ (A : Around) (outer : List Env) (s : Shared) (H : Hp), L2.Room k (A.deeper (LamX.lamEnv X scope s.heap.objs.size f c')) → PE (lamN X A outer s H E scope f c') body tb)
    (hN : Ng[i]? = some a) (hv : L2.Vis sg a) (hd : (a == ("__debug__" : Str)) = false := by decide) (hcd : (a == ("__classdict__" : Str)) = false := by decide) :
    PE ((L2.cxOf CXg X.prog X.w X.K X.mg X.base Ng qg sg g cdg X.A X.stack s H Eg).tr pn xe) (.Call (.Name a p1) [] [] p2)
      (fun σZ HZ Q => σZ[i]? = some (some (.ref f)) ∧ HZ c' = some (LamX.CodeO c' (X.env.qual ++ "<lambda>")) ∧ tb σ HZ Q) := by
  refine ⟨fun pinsZ sZ σZ HZ Q IZ h => ?_⟩
  obtain ⟨hs, hc, ht⟩ := h
  refine PySem.wpAny_Call_Name_kw (L2.thn ((L2.pe_var (pos := p1) (i := i) hN hv hd hcd).run pinsZ sZ σZ HZ (fun v H1 => v = .ref f ∧ H1 = HZ) IZ ⟨.ref f, hs, rfl, rfl⟩) fun u s1 ⟨v, H1, I1, r1, q1⟩ => ?_)
  obtain ⟨ev, eH⟩ := q1
  subst ev
  rw [eH] at I1
  obtain rfl : u = Value.ref f := r1
  have of1 := I1.base.keep f _ hf hfn hfr (fun z => nomatch (show f ∈ ([] : List Addr) from z))
  refine PySem.W.callWith_F0 ⟨_, _, _, _, of1⟩ ?_
  have un : L2.Un (L2.frs X.stack) [] H HZ s.heap s1.heap := I1.base
  obtain ⟨⟨oc, vs, t, hoc, hdc, hvc⟩, _, _⟩ := I1.hok c' _ hc
  have rc : codeAny (model X.prog X.w) (X.A.deeper (PyProof.Rows.envOfC qg sg s.heap.objs.size g cdg)) (.call (.ref f) ⟨[], []⟩) (L2.CR (L2N.CX X.prog X.w) (PyProof.Rows.envOfC qg sg s.heap.objs.size g cdg :: X.stack) X.prog X.w HZ s1 Q E) s1 := by
    refine PySem.W.kla_callFunE hr.depth of1 rfl L.co L.gen rfl ⟨c', oc, vs, t, rfl, hoc, hdc, hvc⟩ ?_
    rw [hbind]
    refine PySem.wpAny_pure (PySem.wpAny_newFunctionEnv (fun y hy => (L.own y hy).2) (fun y hy => absurd hy (by simp)) (fun h₁ hns hsb => ⟨I1.nolimit.fresh _ hsb, ?_⟩) L.kind)
    show codeAny _ _ (.expr body (LamX.lamEnv X scope s1.heap.objs.size f c')) _ _
    have kp : ∀ b o, s1.heap.get? b = some o → h₁.get? b = some o := fun b o e => hsb.extBut b o (Nat.ne_of_lt (PySem.Heap.lt_size e)) (PySem.Heap.get?_push_of_some _ e)
    have J : Inv (LamX.lamCx X (X.A.deeper (PyProof.Rows.envOfC qg sg s.heap.objs.size g cdg)) (PyProof.Rows.envOfC qg sg s.heap.objs.size g cdg :: X.stack) s1 HZ E scope f c') [] σ HZ { s1 with heap := h₁, toks := s1.toks + ([] : List (Str × Value)).length } :=
      LamX.lam_start2 I L I1.env0 hr.hd un hns kp
    refine PySem.W.kla_codeExpr (PySem.wpAny_mono ((hbody _ _ s1 HZ (hr.deeper _)).run [] _ _ HZ Q (J.wish _) ht) (fun v s' hq => ?_) fun e s' hq => hq)
    obtain ⟨w', H', J', rv, q⟩ := hq
    exact ⟨w', H', J'.os, J'.bare, J'.base, J'.hok, rv, q⟩
  have hx : L2.Passes (L2N.CX X.prog X.w) ((L2.cxOf CXg X.prog X.w X.K X.mg X.base Ng qg sg g cdg X.A X.stack s H Eg).tr pn xe) E := L2N.passes_call tk hW
  refine PySem.wpAny_call (PySem.codeAny_mono rc fun r s' hq => ?_)
  cases r with
  | error e => exact hx pinsZ σZ HZ s1 e s' I1 hq
  | ok fl =>
    cases fl with
    | ret u => exact I1.after hq
    | next => exact False.elim hq
    | brk => exact False.elim hq
    | cont => exact False.elim hq
/-- the def that calls what it got -/
def GivesN (X : Cx) (Ng : List Str) (x : Str) (sg : Scope) (g : Addr) (cdg : Value) (bg : List Stmt) (a : Str) (q : Str) (TT : (XK → Hp → VK → Prop) → Hp → VK → Prop) : Prop :=
  ∀ (f c' : Addr) (s : Shared) (H : Hp) (Q : VK) (tl : XK → Hp → VK → Prop),
    (∀ (W : WX) (pn : List (Addr × Obj)) (xe : Value → Shared → Prop) (E : XK) (p1 p2 : Pos), L2N.Takes ((L2.cxOf C8.CX0 X.prog X.w X.K X.mg X.base Ng x sg g cdg X.A X.stack s H C8.E0).tr pn xe) W → (∀ cls d σ' H', E cls d H' → W cls d σ' H') →
      PE ((L2.cxOf C8.CX0 X.prog X.w X.K X.mg X.base Ng x sg g cdg X.A X.stack s H C8.E0).tr pn xe) (.Call (.Name a p1) [] [] p2) (fun σZ HZ Q => σZ[0]? = some (some (.ref f)) ∧ HZ c' = some (LamX.CodeO c' q) ∧ tl E HZ Q)) →
    H c' = some (LamX.CodeO c' q) → TT tl H Q →
    ∃ t, PSs (L2.cxOf C8.CX0 X.prog X.w X.K X.mg X.base Ng x sg g cdg X.A X.stack s H C8.E0).nox bg t ∧ t { nx := fun _ H' => Q .non H', rt := Q } (L2.start Ng [.ref f]) H
theorem pe_lamcallN {T : List (Addr × Str)} {TT : (XK → Hp → VK → Prop) → Hp → VK → Prop} {x a : Str} {g c P : Addr} {k : Nat} {pg : Arguments} {bg : List Stmt} {sg : Scope} {dV kV doc pm cdv ct oc : Value} {an od : Option Addr} {osl : Array (Option Value)} {Ng : List Str}
    {params : Arguments} {body : Expr} {scope : Scope} {t : XK → TE} {p lpos pos : Pos} (hg : L2.Gl X x) (hm : X.mg x = some (.ref g)) (hk : PySem.W.keepIn X.K (.ref g) = true)
    (lk : X.K.lookup g = some ⟨oc, od, .func (PySem.W.fnOf x x pg bg sg dV kV doc pm an cdv ct), osl⟩) (hcg : PySem.W.codeIn X.K cdv x = true) (hb : L2.Binds X.K (PySem.W.fnOf x x pg bg sg dV kV doc pm an cdv ct) [a] []) (Sg : L2.FnScope Ng [a] sg) (hNg : Ng[0]? = some a) (hva : L2.Vis sg a)
    (hG : GivesN X Ng x sg g cdv bg a (X.env.qual ++ "<lambda>") TT)
    (TB : LamX.TabB X.base X.mg c P) (hcode : X.env.code = .ref c) (hmT : (P, X.env.qual ++ "<lambda>") ∈ T) (hu : ∀ p ∈ T, p.1 = P → p.2 = X.env.qual ++ "<lambda>") (hr : L2.Room (k + 2) X.A) (L : LamX.LamS X.env.scope scope) (hdef : PySem.defaultsOf params X.env = ([], []))
    (hbind : ∀ (q : Str) (cl : List (Str × Addr)) (pm cv ctv : Value), PySem.bindArgs (PySem.W.kla_fn "<lambda>" q params body scope cl pm cv ctv) ⟨[], []⟩ = pure [])
    (hbody : ∀ (A : Around) (outer : List Env) (s : Shared) (H : Hp) (E : XK) (f c' : Addr), L2.Room k (A.deeper (LamX.lamEnv X scope s.heap.objs.size f c')) → PE (lamN X A outer s H E scope f c') body (t E))
    (hdb : (x == ("__debug__" : Str)) = false := by decide) (hd : (a == ("__debug__" : Str)) = false := by decide) (hcd : (a == ("__classdict__" : Str)) = false := by decide) :
    PE X (.Call (.Name x p) [.Lambda params body scope lpos] [] pos) (LamX.tLam T TT t) := by
  refine ⟨fun pins s σ H Q I h => ?_⟩
  obtain ⟨hT, h⟩ := h
  refine PySem.wpAny_Call_Name_kw (L2.ld_glob I hg hm ?_ hdb)
  refine PySem.W.callWith_K (h₀ := X.base) I.ok.mod.kin hk ?_ (by rfl) (by rfl)
  show wpAny _ _ (PySem.spliced ((false, PySem.eval (.Lambda params body scope lpos) X.env) :: PySem.backTo pos (PySem.starEach [] X.env))) _ _ s
  refine PySem.Calls.spliced_cons (LamX.lam_make2 I TB hcode hmT hu hT hdef (L.has I.ok) fun f c' pm' ctv H1 s' I1 eN T1 hf hfn hfr hco => ?_)
  refine PySem.Calls.spliced_nil ⟨I1.kIn, ?_⟩
  have rc : codeAny (model X.prog X.w) X.A (.call (.ref g) ⟨[.ref f], []⟩) (L2.CR C8.CX0 X.stack X.prog X.w H1 s' Q C8.E0) s' := by
    refine LamX.run_ofS (N := Ng) (ps := [a]) (us := [.ref f]) (vs := [.ref f]) lk hcg Sg hr I1.env0 (hb s' [.ref f] I1.kIn rfl) (.cons rfl .nil) rfl fun hr' => ?_
    obtain ⟨t', ht', hq'⟩ := hG f c' s' H1 Q (fun E H' Q' => t E σ H' Q') (fun W pn xe E p1 p2 tk hW => pe_actN (i := 0) I1 L hf hfn hfr (hbind _ _ _ _ _) tk hW hr' (fun A outer s H hr2 => hbody A outer s H E f c' hr2) hNg hva hd hcd) hco (h H1 eN T1)
    exact ⟨t', ht'.nox, hq'⟩
  refine PySem.wpAny_call (PySem.codeAny_mono rc fun r s2 hq => ?_)
  cases r with
  | error e => exact (show False from hq).elim
  | ok fl =>
    cases fl with
    | ret u => exact I1.after hq
    | next => exact False.elim hq
    | brk => exact False.elim hq
    | cont => exact False.elim hq
end
section
variable {g : Gm} {sc scope : Scope} {Wx : WX} {k : Kd} {body : Expr} {A : E} {x : Str} {params : Arguments} {p lpos pos : Pos}
abbrev Gm.lam (g : Gm) : Gm := { g with fnb := fun _ => false, lm := none }
/-- the def that calls what it gets -/
structure LamOk (g : Gm) (x : Str) : Prop where
  ex : ∃ (gA : Addr) (pg : Arguments) (bg : List Stmt) (sg : Scope) (dV kV doc pm cdv ct oc : Value) (an od : Option Addr) (osl : Array (Option Value)) (Ng : List Str) (a : Str),
    g.mg x = some (.ref gA) ∧ PySem.W.keepIn g.K (.ref gA) = true ∧ g.K.lookup gA = some ⟨oc, od, .func (PySem.W.fnOf x x pg bg sg dV kV doc pm an cdv ct), osl⟩ ∧ PySem.W.codeIn g.K cdv x = true ∧ L2.Binds g.K (PySem.W.fnOf x x pg bg sg dV kV doc pm an cdv ct) [a] [] ∧ L2.FnScope Ng [a] sg ∧ Ng[0]? = some a ∧ L2.Vis sg a ∧
    (x == ("__debug__" : Str)) = false ∧ (a == ("__debug__" : Str)) = false ∧ (a == ("__classdict__" : Str)) = false ∧
    ∀ X : Cx, X.prog = g.P → X.w = g.w → X.K = g.K → X.mg = g.mg → X.base = g.base → L2.Room (3 * g.k + 2) X.A → ∀ q, GivesN X Ng x sg gA cdv bg a q (TTref g.G)
theorem Ok.lamCx {X : Cx} (o : Ok g sc Wx X) (A : Around) (outer : List Env) (s : Shared) (H : Hp) (E : XK) (f c' : Addr) (hr : L2.Room (3 * g.k) (A.deeper (LamX.lamEnv X scope s.heap.objs.size f c'))) : Ok g.lam scope (fun cls d _ H => E cls d H) (lamN X A outer s H E scope f c') where
  pr := o.pr
  w := o.w
  K := o.K
  mg := o.mg
  bs := o.bs
  N := o.N
  sc := rfl
  calm := rfl
  room := hr
  tk := L2N.takes_of rfl rfl rfl rfl
  fn := fun x h => by cases h
  lam := fun c q h => by cases h
  calls := fun n x h1 h2 => by
    obtain ⟨f, fd, ps, a⟩ := (o.calls n x h1 h2).ex
    exact ⟨f, fd, ps, a⟩
theorem se_refused {c Pt : Addr} {q : Str} (hL : LamOk g x) (hg : sc.names.lookup x = some .globalImplicit) (hl : g.lm = some (c, q)) (TB : LamX.TabB g.base g.mg c Pt) (hmT : (Pt, q ++ "<lambda>") ∈ g.tb) (hu : ∀ p ∈ g.tb, p.1 = Pt → p.2 = q ++ "<lambda>") (hS : LamX.lamSB sc scope = true)
    (hb : ∀ E : XK, SE g.lam scope (fun cls d _ H => E cls d H) k body A) (hdef : ∀ env, PySem.defaultsOf params env = ([], []) := by intro _; rfl)
    (hbind : ∀ (q : Str) (cl : List (Str × Addr)) (pm cv ctv : Value), PySem.bindArgs (PySem.W.kla_fn "<lambda>" q params body scope cl pm cv ctv) ⟨[], []⟩ = pure [] := by intros; rfl) :
    SE g sc Wx .rep (.Call (.Name x p) [.Lambda params body scope lpos] [] pos) (.refused A) := by
  obtain ⟨gA, pg, bg, sg, dV, kV, doc, pm, cdv, ct, oc, an, od, osl, Ng, a, h1, h2, h3, h4, h5, h6, h7, h8, h9, h10, h11, h12⟩ := hL.ex
  have hc : ∀ E : XK, ∃ t, (∀ X, Ok g.lam scope (fun cls d _ H => E cls d H) X → PE X body t) ∧ Snd g.C g.G (fun cls d _ H => E cls d H) k t A := hb
  refine ⟨LamX.tLam g.tb (TTref g.G) fun E => Classical.choose (hc E), fun X o => ?_, snd_refused fun E => (Classical.choose_spec (hc E)).2⟩
  obtain ⟨k1, k2, k3⟩ := o.lam c q hl
  exact pe_lamcallN (T := g.tb) (TT := TTref g.G) (t := fun E => Classical.choose (hc E)) (g := gA) (c := c) (P := Pt) (k := 3 * g.k) (a := a) (Ng := Ng) (o.gl hg) (by rw [o.mg]; exact h1) (by rw [o.K]; exact h2) (by rw [o.K]; exact h3) (by rw [o.K]; exact h4) (by rw [o.K]; exact h5) h6 h7 h8
    (h12 X o.pr o.w o.K o.mg o.bs k3 _) (by rw [o.bs, o.mg]; exact TB) k1 (by rw [k2]; exact hmT) (by rw [k2]; exact hu) k3 (by rw [o.sc]; exact LamX.lamS_by hS) (hdef _) hbind (fun A outer s H E f c' hr => (Classical.choose_spec (hc E)).1 _ (o.lamCx A outer s H E f c' hr)) h9 h10 h11
end
end Rf

/-! RHot: within an except suite: a list walked to its end, a tuple unpacked, a list comprehension. -/
namespace Rf
open PySem PySem.Spec PyProof.Rows HotX
section
variable {prog : Program} {w : World} {A : Around} {E : Value → Shared → Prop} {s : Shared}
/-- the end of an iterator, where the exception x1 is handled: a StopIteration is raised and taken -/
theorem list_end_hot {it l x1 : Addr} {i : Nat} {items} {Q : Option Value → Shared → Prop} (hot : HotAt A x1 s.heap) (hne : x1 ≠ it)
    (hit : s.heap.IsListIter it l i) (hl : s.heap.IsList l items) (hx : items[i]? = none)
    (hQ : ∀ h', (∀ b o, b ≠ it → s.heap.get? b = some o → h'.get? b = some o) → Q none { s with heap := h' }) : wpAny (model prog w) A (pyNext (.ref it)) Q E s := by
  obtain ⟨o, ho, hc, hd⟩ := id hit
  obtain ⟨ol, hol, _, nl, hdl⟩ := hl
  obtain ⟨hh, o1, vs1, h1, d1, c1⟩ := hot
  unfold pyNext
  refine wpAny_bind (wpAny_attempt (wpAny_callSpecial?_slot (name := Str.ofString "__next__") hit.typeIs slot_listiter_next
    (wpAny_call_entry slot_listiter_next hit.typeIs entry_listiter_next ?_ (args_listiter_next _))))
  show wpAny _ _ (field (.ref it) 0 >>= _) _ _ s
  refine wpAny_bind (wpAny_field ho hd (x := .ref l) rfl ?_)
  show wpAny _ _ (if (Value.ref l == Value.none) = true then _ else _) _ _ s
  rw [if_neg (show ¬ ((Value.ref l == Value.none) = true) from Bool.false_ne_true)]
  show wpAny _ _ (field (.ref it) 1 >>= _) _ _ s
  refine wpAny_bind (wpAny_field ho hd (x := .int i 0) rfl ?_)
  show wpAny _ _ (seqItems? (.ref l) >>= _) _ _ s
  refine wpAny_bind (wpAny_seqItems hol hdl ?_)
  simp only [Int.toNat_natCast, hx]
  refine wpAny_bind (wpAny_rule (wpAny_bind (wpAny_setField ho hd (by simp) ?_)))
  show wpAny _ _ (newExc (.type "StopIteration") [] >>= _) _ _ _
  refine wpAny_bind ?_
  simp only [newExc, newTuple]
  refine wpAny_bind (wpAny_newObj_type ?_ (by size_fits))
  refine wpAny_bind (m := firstArgMember _ _) (wpAny_of_eq (a := Value.none) (by first | rfl | (simp only [firstArgMember]; rfl)) ?_)
  refine wpAny_newObj_type ?_ (by size_fits)
  have sb := Heap.SameBut.update s.heap (f := Obj.mapFields (·.setIfInBounds 0 .none)) it
  refine raiseNew_hot ⟨hh, o1, vs1, Heap.get?_push_of_some _ (Heap.get?_push_of_some _ ((Heap.get?_update_other _ _ (fun z => hne z.symm)).trans h1)), d1, c1⟩ (Nat.ne_of_lt (Heap.lt_size (Heap.get?_push_of_some _ ((Heap.get?_update_other _ _ (fun z => hne z.symm)).trans h1)))) (Heap.get?_push_size _ rfl) rfl (by first | (simp; done) | (simp; omega) | (simp only [Array.size_append]; simp; omega)) ?_
  refine wpAny_bind (wpAny_isInstance (T := "StopIteration") (b := true) ⟨_, Heap.get?_update_self _ (Heap.get?_push_size _ rfl) rfl, rfl⟩ isSubtype_stop ?_)
  refine wpAny_pure (hQ _ fun b o hb e => ?_)
  have e2 := (Heap.get?_update_other s.heap (Obj.mapFields (·.setIfInBounds 0 .none)) (fun z => hb z.symm)).trans e
  rw [Heap.get?_update_other _ _ (Nat.ne_of_gt (Heap.lt_size (Heap.get?_push_of_some _ e2)))]
  exact Heap.get?_push_of_some _ (Heap.get?_push_of_some _ e2)
theorem tuple_end_hot {it t x1 : Addr} {i : Nat} {items} {Q : Option Value → Shared → Prop} (hot : HotAt A x1 s.heap) (hne : x1 ≠ it)
    (hit : IsTupIter s.heap it t i) (ht : IsTup s.heap t items) (hx : items[i]? = none)
    (hQ : ∀ h', (∀ b o, b ≠ it → s.heap.get? b = some o → h'.get? b = some o) → Q none { s with heap := h' }) : wpAny (model prog w) A (pyNext (.ref it)) Q E s := by
  obtain ⟨o, ho, hc, hd⟩ := id hit
  obtain ⟨ol, hol, _, nl, hdl⟩ := ht
  obtain ⟨hh, o1, vs1, h1, d1, c1⟩ := hot
  unfold pyNext
  refine wpAny_bind (wpAny_attempt (wpAny_callSpecial?_slot (name := Str.ofString "__next__") hit.typeIs slot_tupleiter_next
    (wpAny_call_entry slot_tupleiter_next hit.typeIs entry_tupleiter_next ?_ (args_tupleiter_next _))))
  show wpAny _ _ (field (.ref it) 0 >>= _) _ _ s
  refine wpAny_bind (wpAny_field ho hd (x := .ref t) rfl ?_)
  show wpAny _ _ (if (Value.ref t == Value.none) = true then _ else _) _ _ s
  rw [if_neg (show ¬ ((Value.ref t == Value.none) = true) from Bool.false_ne_true)]
  show wpAny _ _ (field (.ref it) 1 >>= _) _ _ s
  refine wpAny_bind (wpAny_field ho hd (x := .int i 0) rfl ?_)
  show wpAny _ _ (seqItems? (.ref t) >>= _) _ _ s
  refine wpAny_bind (wpAny_seqItems hol hdl ?_)
  simp only [Int.toNat_natCast, hx]
  refine wpAny_bind (wpAny_rule (wpAny_bind (wpAny_setField ho hd (by simp) ?_)))
  show wpAny _ _ (newExc (.type "StopIteration") [] >>= _) _ _ _
  refine wpAny_bind ?_
  simp only [newExc, newTuple]
  refine wpAny_bind (wpAny_newObj_type ?_ (by size_fits))
  refine wpAny_bind (m := firstArgMember _ _) (wpAny_of_eq (a := Value.none) (by first | rfl | (simp only [firstArgMember]; rfl)) ?_)
  refine wpAny_newObj_type ?_ (by size_fits)
  refine raiseNew_hot ⟨hh, o1, vs1, Heap.get?_push_of_some _ (Heap.get?_push_of_some _ ((Heap.get?_update_other _ _ (fun z => hne z.symm)).trans h1)), d1, c1⟩ (Nat.ne_of_lt (Heap.lt_size (Heap.get?_push_of_some _ ((Heap.get?_update_other _ _ (fun z => hne z.symm)).trans h1)))) (Heap.get?_push_size _ rfl) rfl (by first | (simp; done) | (simp; omega) | (simp only [Array.size_append]; simp; omega)) ?_
  refine wpAny_bind (wpAny_isInstance (T := "StopIteration") (b := true) ⟨_, Heap.get?_update_self _ (Heap.get?_push_size _ rfl) rfl, rfl⟩ isSubtype_stop ?_)
  refine wpAny_pure (hQ _ fun b o hb e => ?_)
  have e2 := (Heap.get?_update_other s.heap (Obj.mapFields (·.setIfInBounds 0 .none)) (fun z => hb z.symm)).trans e
  rw [Heap.get?_update_other _ _ (Nat.ne_of_gt (Heap.lt_size (Heap.get?_push_of_some _ e2)))]
  exact Heap.get?_push_of_some _ (Heap.get?_push_of_some _ e2)
theorem hot_push {x1 : Addr} {h : Heap} {o : Obj} (hot : HotAt A x1 h) : HotAt A x1 (h.push o) := by
  obtain ⟨hh, o1, vs, h1, r⟩ := hot
  exact ⟨hh, o1, vs, Heap.get?_push_of_some _ h1, r⟩
theorem hot_keep {x1 : Addr} {h h' : Heap} (hot : HotAt A x1 h) (k : ∀ o, h.get? x1 = some o → h'.get? x1 = some o) : HotAt A x1 h' := by
  obtain ⟨hh, o1, vs, h1, r⟩ := hot
  exact ⟨hh, o1, vs, k _ h1, r⟩
theorem hot_lt {x1 : Addr} {h : Heap} (hot : HotAt A x1 h) : x1 < h.objs.size := by
  obtain ⟨hh, o1, vs, h1, r⟩ := hot
  exact Heap.lt_size h1
theorem assign_hot {env : Env} {elts : List Expr} {k pos} {t x1 : Addr} {items : Array Value} {Q : Unit → Shared → Prop} (hot : HotAt A x1 s.heap) (ht : IsTup s.heap t items)
    (hn : (assignEach elts env).length = items.size) (hstar : (assignEach elts env).findIdx? (·.1) = none)
    (h : ∀ h', (∀ b o, s.heap.get? b = some o → h'.get? b = some o) → wpAny (model prog w) A (assignInOrder ((assignEach elts env).map (·.2)) items.toList) Q E { s with heap := h' }) :
    wpAny (model prog w) A (assign (.Tuple elts k pos) env (.ref t)) Q E s := by
  rw [assign_Tuple]
  refine wpAny_bind (wpAny_standAt ?_)
  unfold unpack
  rw [hn, hstar]
  refine wpAny_bind (wpAny_holding ?_)
  have hlt : t ≠ s.heap.objs.size := by obtain ⟨o, ho, _⟩ := ht; exact Nat.ne_of_lt (Heap.lt_size ho)
  have hx1 : x1 ≠ s.heap.objs.size := Nat.ne_of_lt (hot_lt hot)
  unfold unpackItems
  refine wpAny_bind ?_
  · unfold notIterableAtAll
    refine wpAny_bind (wpAny_specialOf ht.typeIs slot_tuple_iter.lookup ?_)
    refine wpAny_pure ?_
    simp only [Bool.false_eq_true, if_false]
    refine wpAny_bind (wpAny_holding (iter_tuple ht ?_))
    refine wpAny_bind (wpAny_holding (draw_tuple hlt items.size 0 _ _ ⟨_, Heap.get?_push_size _ rfl, rfl, rfl⟩ (ht.push _) (by omega) fun h₁ hit₁ hs₁ => ?_))
    have hall : List.take items.size (List.drop 0 items.toList) = items.toList := by
      rw [List.drop_zero]; exact List.take_of_length_le (by simp)
    rw [hall]
    rw [if_neg (by simp)]
    have ht₁ : IsTup h₁ t items := (ht.push _).extBut hs₁.extBut hlt
    refine wpAny_bind (wpAny_holding (tuple_end_hot (hot_keep (hot_push hot) fun o e => hs₁.extBut _ _ hx1 e) hx1 hit₁ ht₁ (by simp) fun h₂ he₂ => ?_))
    simp only [Option.isSome_none, Bool.false_eq_true, if_false]
    refine wpAny_pure (h h₂ fun b o e => ?_)
    have hb : b ≠ s.heap.objs.size := Nat.ne_of_lt (Heap.lt_size e)
    exact he₂ b o hb (hs₁.extBut b o hb (Heap.get?_push_of_some _ e))
end
open L2 (Vals RelV SqL SqT HO Hp V TG TGs PG PGs PE PT PI TE TT TI Cx Inv gTup FpOk)
open L2H (HotC Hot1)
section
variable {X : Cx} {pos : Pos}
theorem pg_tupH {es : List Expr} {k : Nat} {t : TGs} {n : Nat} (hc : HotC X) (h : PGs X es t)
    (hn : (assignEach es X.env).length = n := by rfl) (hst : (assignEach es X.env).findIdx? (·.1) = none := by rfl) : PG X (.Tuple es k pos) (gTup X.K n t) := by
  refine ⟨fun pins s σ H v u Q I r hw => ?_⟩
  obtain ⟨a, xs, e1, hq, hl, hw⟩ := hw
  subst e1
  cases r
  obtain ⟨its, rv, ht, hz⟩ := I.tuple hq
  obtain ⟨x1, hot⟩ := hc.at I
  refine assign_hot hot ht (by simp [hn, ← hl, rv.length]) hst fun h' hx => ?_
  have I1 : Inv X pins σ H { s with heap := h' } := I.kept (t' := s.toks) fun b o e => hx b o e
  exact h.run pins _ σ H xs _ Q I1 (by simpa using rv) hw
/-- the context of a block within an except suite -/
abbrev blkH (X : Cx) (p : Addr × Obj) (s : Shared) (H : Hp) (scope : Scope) (cenv : Env) (fp : List Addr) : Cx := { X.blk s H scope cenv fp with pn := [p] }
theorem inv_pn {Y : Cx} {pn pins : List (Addr × Obj)} {σ : L2.St} {H : Hp} {s : Shared} (I : Inv Y pins σ H s) (h : ∀ q ∈ pn ++ pins, s.heap.get? q.1 = some q.2 ∧ H q.1 = none ∧ q.1 ≠ Y.env.locals ∧ q.1 ∉ Y.fs ∧ ∀ v, q.2.data ≠ .cell v) : Inv { Y with pn := pn } pins σ H s :=
  have o := I.ok
  ⟨⟨o.mod, o.kind, o.glob, o.blt, o.above, o.inj, o.has, o.cab, o.hd, o.frames, o.stk, o.exf, o.bs, o.bsz, o.noex, o.exfs, o.funs, o.frf⟩, I.os, I.bare, I.base, I.loc, I.cell, I.free, I.freeC, h, I.hok, I.len⟩
theorem inv_unpn {Y : Cx} {pn pins : List (Addr × Obj)} {σ : L2.St} {H : Hp} {s : Shared} (I : Inv { Y with pn := pn } pins σ H s) (hn : Y.pn = []) : Inv Y pins σ H s :=
  have o := I.ok
  ⟨⟨o.mod, o.kind, o.glob, o.blt, o.above, o.inj, o.has, o.cab, o.hd, o.frames, o.stk, o.exf, o.bs, o.bsz, o.noex, o.exfs, o.funs, o.frf⟩, I.os, I.bare, I.base, I.loc, I.cell, I.free, I.freeC, fun q hq => I.pin q (by rw [hn] at hq; exact List.mem_append_right _ hq), I.hok, I.len⟩
/-- [elt for target in list if ..] within an except suite -/
theorem pe_lcH {p : Addr × Obj} {elt tg iter : Expr} {ifs : List Expr} {scope : Scope} {own : List (Str × Nat)} {pos : Pos} {tl : TE} {g : TG} {tt : TT} {te : TE} (hot1 : Hot1 X.A p) (hpn : X.pn = [p]) (hN : X.N.Nodup) (hl : PE X iter tl) (ok : L2.BlkOk X.N X.env.scope scope own)
    (hg : ∀ (s : Shared) (H : Hp) (C : Addr) (cl : List (Str × Addr)) (fp : List Addr), PG (blkH X p s H scope (compEnvC scope cl C X.env) fp) tg g) (ht : ∀ (s : Shared) (H : Hp) (C : Addr) (cl : List (Str × Addr)) (fp : List Addr), L2.PTs (blkH X p s H scope (compEnvC scope cl C X.env) fp) ifs tt)
    (he : ∀ (s : Shared) (H : Hp) (C : Addr) (cl : List (Str × Addr)) (fp : List Addr), PE (blkH X p s H scope (compEnvC scope cl C X.env) fp) elt te) (hs : ∀ x, foldedSetIterable iter X.env x = pure x := by intro _; rfl) :
    PE X (.ListComp elt [⟨tg, iter, ifs, 0⟩] scope pos) (L2.tLc (L2.iList X.K tl) g tt te (own.map (·.2))) := by
  refine ⟨fun pins s σ H Q I h => ?_⟩
  rw [eval_ListComp]
  have hfree : ∀ y ∈ scope.names, y.2 = .free → ∃ c, X.env.cells.lookup y.1 = some c := fun y hy e => by
    rcases ok.free y hy e with k | k
    · exact I.ok.has _ (.inl k)
    · exact I.ok.has _ (.inr k)
  refine wpAny_comprehension_free (use := none) rfl hs (L2.closure_ok hfree) ok.kind (fun y hy e => by rw [ok.uniq y hy, e])
    (L2.thn (hl.run pins s σ H _ I h) fun xv s1 ⟨x, H1, I1, r1, q1⟩ => ?_)
  obtain ⟨a, e, ⟨xs0, hq0⟩, q⟩ := q1
  subst e
  cases r1
  obtain ⟨its0, rv0, pl0, hz0⟩ := I1.list hq0
  refine wpAny_pyIter_list pl0.isList ?_
  generalize hit0 : s1.heap.objs.size = it
  generalize hs2 : ({ s1 with heap := s1.heap.push { cls := .type "list_iterator", data := .fields #[.ref a, .int 0 0] } } : Shared) = s2
  have I2 : Inv X pins σ H1 s2 := by
    rw [← hs2]
    exact I1.kept (t' := s1.toks) fun b o e => Heap.get?_push_of_some _ e
  have st2 : s2.heap.IsListIter it a 0 := by
    rw [← hs2, ← hit0]
    exact ⟨_, Heap.get?_push_size _ rfl, rfl, rfl⟩
  have f2 : FpOk X pins H1 it := by
    rw [← hit0]
    exact I1.fpOk (Nat.le_refl _) (I1.hok.fresh (Nat.le_refl _))
  refine wpAny_newObj_type (L2.newEnv_comp ?_) (by show 0 ≤ sizeLine; decide)
  generalize hD : s2.heap.objs.size = D
  have hDn : H1 D = none := I2.hok.fresh (Nat.le_of_eq hD)
  obtain ⟨W, ⟨m0, w0⟩, turn⟩ := q D hDn
  generalize hs3 : ({ s2 with heap := s2.heap.push { cls := .type "list", data := .seq ([] : List Value).toArray } } : Shared) = s3
  have I3 : Inv X pins σ (L2.upd H1 D (.lst [])) s3 := by
    rw [← hs3]
    refine I2.laid (t' := s2.toks) (fun b o e => Heap.get?_push_of_some _ e) (Nat.le_of_eq hD) ⟨Nat.zero_le _, [], 0, .nil, ?_⟩
    rw [← hD]
    exact Heap.get?_push_size _ rfl
  have h3 : s3.heap = s2.heap.push { cls := .type "list", data := .seq ([] : List Value).toArray } := by rw [← hs3]
  have szit : it < s2.heap.objs.size := by
    obtain ⟨o, e, _⟩ := st2
    exact Heap.lt_size e
  have f3 : ∀ b ∈ [it], FpOk X pins (L2.upd H1 D (.lst [])) b ∧ b < s3.heap.objs.size := fun b hb => by
    have eb : b = it := by simpa using hb
    subst eb
    refine ⟨⟨?_, f2.2⟩, by rw [h3, Heap.size_push]; exact Nat.lt_succ_of_lt szit⟩
    rw [L2.upd_ne (by rw [← hD]; exact Nat.ne_of_lt szit)]
    exact f2.1
  have st3 : s3.heap.IsListIter it a 0 := st2.at fun o e => by rw [h3]; exact Heap.get?_push_of_some _ e
  have I4' := L2.block_start I3 ok hN f3
  have P3 := I3.pin p (List.mem_append_left _ (by rw [hpn]; exact List.mem_cons_self))
  have pns : p.1 ∉ L2.frs X.stack := fun hm => by
    rcases List.mem_cons.mp (I3.stkSub p.1 hm) with z | z
    · exact P3.2.2.1 z
    · exact P3.2.2.2.1 z
  have I4 := inv_pn (pn := [p]) I4' (fun r hr => by
    have er : r = p := by simpa using hr
    subst er
    exact ⟨pushCells_keeps _ _ _ _ (Heap.get?_push_of_some _ P3.1), P3.2.1, Nat.ne_of_lt (Heap.lt_size P3.1), pns, P3.2.2.2.2⟩)
  have pg := hg s3 (L2.upd H1 D (.lst [])) s3.heap.objs.size (cellsFrom (s3.heap.objs.size + 1) scope.names (L2.cloFrom X.env.cells scope.names [])) [it]
  have pt := ht s3 (L2.upd H1 D (.lst [])) s3.heap.objs.size (cellsFrom (s3.heap.objs.size + 1) scope.names (L2.cloFrom X.env.cells scope.names [])) [it]
  have pe := he s3 (L2.upd H1 D (.lst [])) s3.heap.objs.size (cellsFrom (s3.heap.objs.size + 1) scope.names (L2.cloFrom X.env.cells scope.names [])) [it]
  show codeAny _ _ (.compStart (.ListComp elt [⟨tg, iter, ifs, 0⟩] scope pos) 0 (.ref it) (.ref D) (compEnvC scope (cellsFrom (s3.heap.objs.size + 1) scope.names (L2.cloFrom X.env.cells scope.names [])) s3.heap.objs.size X.env)) (compPost (model X.prog X.w) X.A X.xe none (L2.EP X pins σ Q) (.ref D) s3.heap.objs.size) { s3 with heap := pushCells (s3.heap.push { cls := .type "dict", data := .dict #[] }) scope.names }
  have nfp : (L2.upd H1 D (.lst [])) it = none := (f3 it (by simp)).1.1
  generalize hce : compEnvC scope (cellsFrom (s3.heap.objs.size + 1) scope.names (L2.cloFrom X.env.cells scope.names [])) s3.heap.objs.size X.env = ce at I4 pg pt pe ⊢
  have cL : ce.locals = s3.heap.objs.size := by subst hce; rfl
  generalize hH3 : L2.upd H1 D (.lst []) = H3 at I3 I4 pg pt pe w0 nfp f3
  generalize hs4 : ({ s3 with heap := pushCells (s3.heap.push { cls := .type "dict", data := .dict #[] }) scope.names } : Shared) = s4 at I4 ⊢
  have st4 : s4.heap.IsListIter it a 0 := st3.at fun o e => by rw [← hs4]; exact pushCells_keeps _ _ _ _ (Heap.get?_push_of_some _ e)
  have pit : p.1 ≠ it := fun z => by
    have q1 := (f3 it (by simp)).1.2.2.2.2.2 p (List.mem_append_left _ (by rw [hpn]; exact List.mem_cons_self))
    exact q1 z
  have stat : ∀ {σ' : L2.St} {H' : Hp} {s' : Shared}, Inv (blkH X p s3 H3 scope ce [it]) [] σ' H' s' → H' it = none → FpOk (blkH X p s3 H3 scope ce [it]) [] H' it := fun {σ' H' s'} I' hn =>
    ⟨hn, (I'.ok.exf it (by simp)).1, I'.ok.exfs it (by simp), .inl (by simp), fun x c e => (I'.ok.exf it (by simp)).2 x c e, fun r hr => by
      have er : r = p := by simpa using hr
      subst er
      exact pit⟩
  have loop : codeAny (model X.prog X.w) X.A (.compLoop (.ListComp elt [⟨tg, iter, ifs, 0⟩] scope pos) 0 (.ref it) (.ref D) ce) (compPost (model X.prog X.w) X.A X.xe none (L2.EP X pins σ Q) (.ref D) s3.heap.objs.size) s4 := by
    refine L2.compLoop_any (fun n s' => ∃ i H', Inv (blkH X p s3 H3 scope ce [it]) [] (L2.wipe σ (own.map (·.2))) H' s' ∧ s'.heap.IsListIter it a i ∧ H' it = none ∧ W i n H') ?_ m0 ⟨0, H3, I4, st4, nfp, w0⟩
    rintro n s5 ⟨i, H5, I5, st5, n5, w5⟩
    obtain ⟨f0, f1, f2', f3', f4, f5⟩ := stat I5 n5
    have hot5 : HotAt X.A p.1 s5.heap := by
      obtain ⟨hh, vs1, e1, c1⟩ := hot1
      exact ⟨hh, p.2, vs1, (I5.pin p (by simp)).1, e1, c1⟩
    rcases turn i n H5 w5 with ⟨stop, qq⟩ | ⟨go, Nx, hNx, step⟩
    · obtain ⟨xs, hq, hx⟩ := stop
      obtain ⟨its, rv, pl, hz⟩ := I5.list hq
      have hlen := rv.length
      refine list_end_hot hot5 pit st5 pl.isList (by simp; omega) fun h' eb => ?_
      have I6 : Inv (blkH X p s3 H3 scope ce [it]) [] (L2.wipe σ (own.map (·.2))) H5 { s5 with heap := h' } := I5.turned (t' := s5.toks) (fun b o hb e => eb b o hb e) f0 f1 f3' f4 f5
      have I7 : Inv X pins σ H5 { s5 with heap := h' } := I3.call' (ch := [it]) I6.os I6.base I6.hok I6.bare fun b hb => ⟨(f3 b hb).1.2.2.2.1, (f3 b hb).1.2.1, (f3 b hb).1.2.2.2.2.1, (f3 b hb).1.2.2.2.2.2⟩
      have nC : H5 s3.heap.objs.size = none := by
        have z : H5 ce.locals = none := I6.free
        rw [cL] at z
        exact z
      obtain ⟨m, hn, _⟩ := I6.loc
      have hn : h'.Ns ce.locals m := hn
      rw [cL] at hn
      refine ⟨m, hn, fun h'' sb => ?_⟩
      obtain ⟨g0, g1, g2, g3, g4, g5⟩ := I3.fpOk (H' := H5) (Nat.le_refl _) nC
      exact ⟨.ref D, H5, I7.turned (t' := s5.toks) (fun b o hb e => (sb.2 b hb).trans e) g0 g1 g3 g4 g5, rfl, qq⟩
    · obtain ⟨xs, x, hq, hx⟩ := go
      obtain ⟨its, rv, pl, hz⟩ := I5.list hq
      obtain ⟨u, hu, ru⟩ := rv.get hx
      refine wpAny_pyNext_list_item st5 pl.isList (x := u) (by simpa using hu) fun h' st' sb => ?_
      have I7 : Inv (blkH X p s3 H3 scope ce [it]) [] (L2.wipe σ (own.map (·.2))) H5 { s5 with heap := h' } := I5.turned (t' := s5.toks) (fun b o hb e => (sb.2 b hb).trans e) f0 f1 f3' f4 f5
      obtain ⟨oi, ei, ci, di⟩ := id st'
      refine L2.go_of (s := { s5 with heap := h' }) ei ci di (by decide) ?_
      have I7' := I7.pinned (fp := [it]) (fun b hb => by
        have eb : b = it := by simpa using hb
        subst eb
        exact stat I7 n5) (fun b hb => by
        have eb : b = it := by simpa using hb
        subst eb
        exact ⟨oi, ei, fun v z => by rw [di] at z; cases z⟩)
      refine L2.thnF (pg.run _ { s5 with heap := h' } _ H5 x u _ I7' ru (step x H5 ⟨rfl, fun ys hy => by rw [I5.list_inj hy hq]; exact hx⟩)) fun _ s8 ⟨σ8, H8, I8, hw8, q8⟩ => ?_
      refine L2.thnF (pt.run _ s8 σ8 H8 _ I8 q8) fun b s9 ⟨H9, I9, q9⟩ => ?_
      have fin : ∀ {s' : Shared} {H' : Hp}, Inv (blkH X p s3 H3 scope ce [it]) ([] ++ L2.pinsAt [it] h') σ8 H' s' → Nx H' → ∃ m, m < n ∧ ∃ i H', Inv (blkH X p s3 H3 scope ce [it]) [] (L2.wipe σ (own.map (·.2))) H' s' ∧ s'.heap.IsListIter it a i ∧ H' it = none ∧ W i m H' := fun {s' H'} I' nx => by
        obtain ⟨m', hm, w'⟩ := hNx H' nx
        have z := I'.pin (it, oi) (List.mem_append_right _ (List.mem_append_right _ (L2.mem_pinsAt (by simp) ei)))
        have hl : (L2.wipe σ (own.map (·.2))).length = σ8.length := by rw [← hw8, L2.wipe_length]
        refine ⟨m', hm, i + 1, H', (I'.unpinned (pins := [])).weak hl (fun j v e => ?_), ⟨oi, z.1, ci, di⟩, z.2.1, w'⟩
        rw [← hw8] at e
        exact (L2.wipe_some e).1
      cases b with
      | false =>
        simp only [Bool.false_eq_true, if_false] at q9 ⊢
        exact fin I9 q9
      | true =>
        simp only [if_true] at q9 ⊢
        refine L2.thnF (pe.run _ s9 σ8 H9 _ I9 q9) fun z s10 ⟨yv, H10, I10, r10, acc, hD10, hz10, nx⟩ => ?_
        exact L2.app_ok (X := blkH X p s3 H3 scope ce [it]) I10 hD10 hz10 r10 fun s11 I11 => fin I11 nx
  exact codeAny_compStart_list loop (wpAny_pyIter_listiter st4 loop)
end
end Rf

/-! RErr: what the law's words for an error are: `_law_error` within the suite of `_law_refused`. -/
namespace Rf
open PySem (Str Addr Value Pos Expr Stmt Scope Program World Heap Shared Obj FuncData Arguments Around Env)
open L2 (V Hp HO SqL SqT Rd upd upd_same upd_ne VK XK TE TT TA TS TG TGs TI WX Cx Ends OpR R2 rI rI0 PE PT PW PA PS PSs PG PGs PI It Inv)
/-- the heap has grown -/
def Gw (H H' : Hp) : Prop := ∀ a u, H a = some u → H' a = some u
theorem Gw.refl {H : Hp} : Gw H H := fun _ _ h => h
theorem Gw.trans {H H1 H2 : Hp} (a : Gw H H1) (b : Gw H1 H2) : Gw H H2 := fun c u h => b c u (a c u h)
theorem Gw.new {H : Hp} {p : Addr} {o : HO} (h : H p = none) : Gw H (upd H p o) := upd_k h
/-- a pair (word, truth) -/
def IsPr (H : Hp) (v : V) (w : Str) (b : Bool) : Prop := ∃ p, v = .ref p ∧ H p = some (.tup [.str w, .bl b])
def PrL (H : Hp) : List V → List (Str × Bool) → Prop
  | [], [] => True
  | v :: vs, (w, b) :: l => IsPr H v w b ∧ PrL H vs l
  | _, _ => False
theorem IsPr.mono {H H' : Hp} {v : V} {w : Str} {b : Bool} (g : Gw H H') (h : IsPr H v w b) : IsPr H' v w b := h.imp fun p h => ⟨h.1, g _ _ h.2⟩
theorem PrL.mono {H H' : Hp} (g : Gw H H') : ∀ {vs : List V} {l : List (Str × Bool)}, PrL H vs l → PrL H' vs l
  | [], [], _ => True.intro
  | v :: vs, (w, b) :: l, h => ⟨h.1.mono g, PrL.mono g h.2⟩
  | [], _ :: _, h => h.elim
  | _ :: _, [], h => h.elim
theorem PrL.append {H : Hp} : ∀ {vs us : List V} {l m : List (Str × Bool)}, PrL H vs l → PrL H us m → PrL H (vs ++ us) (l ++ m)
  | [], us, [], m, _, k => k
  | v :: vs, us, (w, b) :: l, m, h, k => ⟨h.1, PrL.append h.2 k⟩
  | [], _, _ :: _, _, h, _ => h.elim
  | _ :: _, _, [], _, h, _ => h.elim
theorem PrL.len {H : Hp} : ∀ {vs : List V} {l : List (Str × Bool)}, PrL H vs l → vs.length = l.length
  | [], [], _ => rfl
  | v :: vs, (w, b) :: l, h => congrArg (· + 1) (PrL.len h.2)
  | [], _ :: _, h => h.elim
  | _ :: _, [], h => h.elim
theorem PrL.get {H : Hp} : ∀ {vs : List V} {l : List (Str × Bool)} {i : Nat} {x : V}, PrL H vs l → vs[i]? = some x → ∃ w b, l[i]? = some (w, b) ∧ IsPr H x w b
  | [], _, i, x, _, e => by simp at e
  | v :: vs, (w, b) :: l, 0, x, h, e => ⟨w, b, rfl, by
    have e1 : v = x := by simpa using e
    exact e1 ▸ h.1⟩
  | v :: vs, (w, b) :: l, i + 1, x, h, e => by
    obtain ⟨w', b', e1, e2⟩ := PrL.get (i := i) h.2 (by simpa using e)
    exact ⟨w', b', by simpa using e1, e2⟩
  | _ :: _, [], _, _, h, _ => h.elim
def IsLs (H : Hp) (v : V) (l : List (Str × Bool)) : Prop := ∃ a vs, v = .ref a ∧ H a = some (.lst vs) ∧ PrL H vs l
theorem IsLs.mono {H H' : Hp} {v : V} {l : List (Str × Bool)} (g : Gw H H') (h : IsLs H v l) : IsLs H' v l := by
  obtain ⟨a, vs, e, h, p⟩ := h
  exact ⟨a, vs, e, g _ _ h, p.mono g⟩
theorem PE.weak {X : Cx} {e : Expr} {t t' : TE} (h : PE X e t) (k : ∀ σ H Q, t' σ H Q → t σ H Q) : PE X e t' := ⟨fun pins s σ H Q I hw => h.run pins s σ H Q I (k σ H Q hw)⟩
theorem PS.weak {X : Cx} {e : Stmt} {t t' : TS} (h : PS X e t) (k : ∀ D σ H, t' D σ H → t D σ H) : PS X e t' := ⟨fun pins s σ H D I hw => h.run pins s σ H D I (k D σ H hw)⟩
theorem call_isH {Y : Cx} {p : Addr × Obj} {D : Addr} (hp : p ∈ Y.pn) (C : L2.ExcC Y.K D) (hz : L2.Zc (.ref D) none p.2) (hf : ∃ vs, p.2.data = .fields vs) : L2.CallR Y (.builtin "isinstance") (L2.rIsE Y.K D p.1) := by
  intro pins s σ H xs us Q I r h
  obtain ⟨c, cv, b, rfl, hcv, e, q⟩ := h
  cases r with
  | cons rx rr =>
    cases rr with
    | cons rt rr =>
      cases rr
      cases rx
      have ec := hcv _ rt
      subst ec
      obtain ⟨hget, _⟩ := I.pin p (List.mem_append_left _ hp)
      obtain ⟨a, oe⟩ := p
      obtain ⟨vs, hv⟩ := hf
      have J : PySem.W.InstAt s.heap a oe D none := by
        obtain ⟨oc, od, oda, osl⟩ := oe
        obtain ⟨h1, h2⟩ := hz
        dsimp only at h1 h2 hv
        subst h1 h2 hv
        exact ⟨hget, rfl, rfl, trivial⟩
      exact PySem.W.kia_one (PySem.W.handS_kitx_exc C.hg C.hk C.hs C.hd C.ha C.hn C.ht C.hm) I.kIn J e (fun z => nomatch z) fun tk => ⟨.bl b, H, I.kept (t' := tk) fun _ _ z => z, rfl, q⟩
/-- the context of `_law_error`: slots e, some, word_so, good -/
structure EC (Y : Cx) (p : Addr × Obj) (D : Addr) : Prop where
  pn : Y.pn = [p]
  hot : L2H.Hot1 Y.A p
  C : L2.ExcC Y.K D
  hz : L2.Zc (.ref D) none p.2
  hf : ∃ vs, p.2.data = .fields vs
  N : Y.N = (["e", "some", "word_so", "good"] : List Str)
  ve : L2.Vis Y.env.scope "e"
  vs : Y.env.scope.names.lookup ("some" : Str) = some .local
  gi : L2.Gl Y "isinstance"
  mi : Y.mg "isinstance" = none
section
variable {Y : Cx} {p : Addr × Obj} {D : Addr} {q1 q2 q3 q4 q5 q6 q7 q8 : Pos} {j k : Nat} {w w1 w2 cn cn1 cn2 : Str} {Ca Ca1 Ca2 : Addr} {b b1 b2 : Bool}
/-- ("word", isinstance(e, Class)) -/
theorem e_pair (c : EC Y p D) (hg : L2.Gl Y cn) (hm : Y.mg cn = some (.ref Ca)) (hk : PySem.W.kitOne Y.K (.ref D) (.ref Ca) = some b) (hdb : (cn == ("__debug__" : Str)) = false) :
    PE Y (.Tuple [.Constant (.str w) j q1, .Call (.Name "isinstance" q2) [.Name "e" q3, .Name cn q4] [] q5] k q6) (fun σ H Q => σ[0]? = some (some (.ref p.1)) ∧ ∀ v H', Gw H H' → IsPr H' v w b → Q v H') := by
  have h1 : PE Y (.Name "e" q3) (L2.tVar 0) := L2.pe_var (by rw [c.N]; rfl) c.ve
  have h2 : PE Y (.Name cn q4) (L2.tC (.ref Ca)) := L2.pe_glob (v := .ref Ca) (u := .ref Ca) hg hm rfl hdb
  have h3 := L2.pe_callB (x := "isinstance") (p := q2) (pos := q5) (call_isH (by rw [c.pn]; exact List.mem_cons_self) c.C c.hz c.hf) c.gi c.mi (by decide +kernel) (L2.pa_cons h1 (L2.pa_cons h2 L2.pa_nil))
  refine PE.weak (L2.pe_tup (L2.pa_cons (L2.pe_str (x := w)) (L2.pa_cons h3 L2.pa_nil))) fun σ H Q h => ?_
  obtain ⟨h0, h⟩ := h
  refine ⟨_, h0, .ref Ca, .ref Ca, b, rfl, fun u r => r, hk, ?_⟩
  exact ⟨by show 2 ≤ PySem.sizeLine; decide, fun p0 hp0 => h _ _ (Gw.new hp0) ⟨p0, rfl, upd_same⟩⟩
theorem e_two {e1 e2 : Expr} (h1 : PE Y e1 (fun σ H Q => σ[0]? = some (some (.ref p.1)) ∧ ∀ v H', Gw H H' → IsPr H' v w1 b1 → Q v H')) (h2 : PE Y e2 (fun σ H Q => σ[0]? = some (some (.ref p.1)) ∧ ∀ v H', Gw H H' → IsPr H' v w2 b2 → Q v H'))
    (hs1 : PySem.starEach [e1, e2] Y.env = (false, PySem.eval e1 Y.env) :: PySem.starEach [e2] Y.env) (hs2 : PySem.starEach [e2] Y.env = (false, PySem.eval e2 Y.env) :: PySem.starEach [] Y.env) :
    PE Y (.List [e1, e2] q7) (fun σ H Q => σ[0]? = some (some (.ref p.1)) ∧ ∀ v H', Gw H H' → IsLs H' v [(w1, b1), (w2, b2)] → Q v H') := by
  refine PE.weak (L2.pe_lst (L2.pa_cons h1 (L2.pa_cons h2 L2.pa_nil hs2) hs1)) fun σ H Q h => ?_
  obtain ⟨h0, h⟩ := h
  refine ⟨h0, fun v1 H1 g1 i1 => ⟨h0, fun v2 H2 g2 i2 => ⟨by show 2 ≤ PySem.sizeLine; decide, fun p0 hp0 => ?_⟩⟩⟩
  have g3 : Gw H2 (upd H2 p0 (.lst [v1, v2])) := Gw.new hp0
  exact h _ _ (g1.trans (g2.trans g3)) ⟨p0, [v1, v2], rfl, upd_same, (i1.mono g2).mono g3, i2.mono g3, True.intro⟩
/-- some = [..] -/
theorem s_first (c : EC Y p D) {e : Expr} {l : List (Str × Bool)} (nd : Y.N.Nodup) (h : PE Y e (fun σ H Q => σ[0]? = some (some (.ref p.1)) ∧ ∀ v H', Gw H H' → IsLs H' v l → Q v H')) (hs : PySem.swapsWith e (some (.Name "some" q1)) q2.line Y.env = pure false) :
    PS Y (.Assign [.Name "some" q1] e q2) (fun D σ H => σ[0]? = some (some (.ref p.1)) ∧ ∀ v H', Gw H H' → IsLs H' v l → D.nx (σ.set 1 (some v)) H') := by
  refine PS.weak (L2.ps_set (i := 1) nd (by rw [c.N]; rfl) (.inl c.vs) h hs (.inr c.vs)) fun D σ H h => ?_
  exact ⟨h.1, fun v H' g i => h.2 v H' g i⟩
/-- some = some + [..] -/
theorem s_more (c : EC Y p D) {e : Expr} {l : List (Str × Bool)} (nd : Y.N.Nodup) (h : PE Y e (fun σ H Q => σ[0]? = some (some (.ref p.1)) ∧ ∀ v H', Gw H H' → IsLs H' v l → Q v H')) :
    PS Y (.Assign [.Name "some" q1] (.BinOp (.Name "some" q3) .Add e q4) q2) (fun D σ H => σ[0]? = some (some (.ref p.1)) ∧ ∃ v l0, σ[1]? = some (some v) ∧ IsLs H v l0 ∧ l0.length + l.length ≤ 100 ∧ ∀ v H', Gw H H' → IsLs H' v (l0 ++ l) → D.nx (σ.set 1 (some v)) H') := by
  have h1 : PE Y (.Name "some" q3) (L2.tVar 1) := L2.pe_var (by rw [c.N]; rfl) (.inl c.vs)
  refine PS.weak (L2.ps_set (i := 1) nd (by rw [c.N]; rfl) (.inl c.vs) (L2.pe_op L2.op_cat h1 h) rfl (.inr c.vs)) fun D σ H h => ?_
  obtain ⟨h0, v, l0, hv, ⟨a, vs, rfl, ha, pl⟩, hz, h⟩ := h
  refine ⟨_, hv, h0, fun v2 H2 g ⟨a2, us, e2, ha2, pl2⟩ => ?_⟩
  subst e2
  refine ⟨a, a2, vs, us, rfl, rfl, g _ _ ha, ha2, ?_, fun p0 hp0 => ?_⟩
  · rw [pl.len, pl2.len]
    exact Nat.le_trans hz (by decide)
  · have g3 : Gw H2 (upd H2 p0 (.lst (vs ++ us))) := Gw.new hp0
    exact h _ _ (g.trans g3) ⟨p0, _, rfl, upd_same, ((pl.mono g).mono g3).append (pl2.mono g3)⟩
/-- the words of the true pairs -/
def trueWords (l : List (Str × Bool)) : List Str := (l.filter (·.2)).map (·.1)
theorem trueWords_snoc (l : List (Str × Bool)) (w : Str) (b : Bool) : trueWords (l ++ [(w, b)]) = if b then trueWords l ++ [w] else trueWords l := by
  unfold trueWords
  rw [List.filter_append]
  cases b <;> simp
/-- return " ".join([word_so for word_so, good in some if good]) -/
theorem s_last (c : EC Y p D) {scope : Scope} {sp : Str} {k2 : Nat} {q9 q10 q11 q12 q13 q14 : Pos} (nd : Y.N.Nodup) (ok : L2.BlkOk Y.N Y.env.scope scope [("word_so", 2), ("good", 3)]) (hk : Y.env.scope.kind = .function)
    (hw : scope.names.lookup ("word_so" : Str) = some .local) (hgd : scope.names.lookup ("good" : Str) = some .local) (hline : (q12.endLine == q13.line) = true) :
    PS Y (.Return (some (.Call (.Attribute (.Constant (.str sp) j q11) "join" q12) [.ListComp (.Name "word_so" q1) [⟨.Tuple [.Name "word_so" q2, .Name "good" q3] k2 q4, .Name "some" q5, [.Name "good" q6], 0⟩] scope q7] [] q13)) q14)
      (fun D σ H => ∃ v l, σ[1]? = some (some v) ∧ σ.length = 4 ∧ l.length ≤ 100 ∧ sp.length ≤ 1000 ∧ IsLs H v l ∧ (∃ w, trueWords l = [w] ∧ w.length ≤ 1000 ∧ ∀ H', Gw H H' → D.rt (.str w) H')) := by
  have h1 : PE Y (.Name "some" q5) (L2.tVar 1) := L2.pe_var (by rw [c.N]; rfl) (.inl c.vs)
  have lk : ∀ {s : Shared} {H : Hp} {C : Addr} {cl : List (Str × Addr)} {fp : List Addr} {x : Str}, scope.names.lookup x = some .local → (blkH Y p s H scope (PySem.compEnvC scope cl C Y.env) fp).env.scope.names.lookup x = some .local := fun {s H C cl fp x} h => L2.lookup_relS_keep (by decide) h
  have hcomp := pe_lcH (p := p) (X := Y) (elt := .Name "word_so" q1) (tg := .Tuple [.Name "word_so" q2, .Name "good" q3] k2 q4) (iter := .Name "some" q5) (ifs := [.Name "good" q6]) (scope := scope) (own := [("word_so", 2), ("good", 3)]) (pos := q7) (g := L2.gTup Y.K 2 (L2.gCons (L2.gName 2) (L2.gCons (L2.gName 3) L2.gNil))) (tt := L2.tB (L2.tVar 3)) (te := L2.tVar 2)
    c.hot c.pn nd h1 ok
    (fun s H C cl fp => pg_tupH (X := blkH Y p s H scope (PySem.compEnvC scope cl C Y.env) fp) ⟨p, c.hot, List.mem_cons_self⟩ (L2.pgs_cons (L2.pg_name (i := 2) nd (by show Y.N[2]? = _; rw [c.N]; rfl) (.inl (lk hw)) (.inr (lk hw))) (L2.pgs_cons (L2.pg_name (i := 3) nd (by show Y.N[3]? = _; rw [c.N]; rfl) (.inl (lk hgd)) (.inr (lk hgd))) L2.pgs_nil)))
    (fun s H C cl fp => L2.pts_one (L2.pt_val (L2.pe_var (i := 3) (by show Y.N[3]? = _; rw [c.N]; rfl) (.inl (lk hgd)))))
    (fun s H C cl fp => L2.pe_var (i := 2) (by show Y.N[2]? = _; rw [c.N]; rfl) (.inl (lk hw)))
  refine PS.weak (L2.ps_ret (L2.pe_join (L2.pe_str (x := sp)) hcomp rfl rfl hline)) fun D σ H h => ?_
  obtain ⟨v, l, hv, hσ, hl100, hsp, ⟨a, vs, rfl, ha, pl⟩, w, hw1, hw2, h⟩ := h
  refine ⟨⟨sp, rfl⟩, _, hv, a, rfl, ⟨vs, SqL.of ha⟩, fun Dn hDn => ?_⟩
  have hl := pl.len
  refine ⟨fun i mm Hc => mm = l.length - i ∧ i ≤ l.length ∧ Gw H Hc ∧ Hc Dn = some (.lst ((trueWords (l.take i)).map V.str)), ⟨l.length, rfl, Nat.zero_le _, Gw.new hDn, by rw [List.take_zero]; exact upd_same⟩, ?_⟩
  rintro i mm Hc ⟨rfl, hil, g, hD⟩
  have hac := g _ _ ha
  rcases Nat.lt_or_ge i l.length with hlt | hge
  · have hvi : vs[i]? = some vs[i] := List.getElem?_eq_getElem (by omega)
    refine .inr ⟨⟨vs, vs[i], SqL.of hac, hvi⟩, fun Hn => i + 1 ≤ l.length ∧ Gw H Hn ∧ Hn Dn = some (.lst ((trueWords (l.take (i + 1))).map V.str)), fun Hn hn => ⟨l.length - (i + 1), by omega, rfl, hn⟩, fun x Hy hy => ?_⟩
    obtain ⟨rfl, hy⟩ := hy
    have ex := hy vs (SqL.of hac)
    obtain ⟨w', b, el, p0, rfl, hp0⟩ := (pl.mono g).get ex
    refine ⟨p0, _, rfl, .inl (.inl hp0), rfl, _, _, rfl, _, _, rfl, rfl, ?_⟩
    have etake : l.take (i + 1) = l.take i ++ [(w', b)] := by
      rw [List.take_succ, el]
      rfl
    have lw : (L2.wipe σ [2, 3]).length = 4 := by rw [L2.wipe_length]; exact hσ
    refine ⟨?_, .bl b, ?_, b, rfl, ?_⟩
    · rw [wipe_set (by simp), wipe_set (by simp), wipe_wipe]
    · exact List.getElem?_set_self (by rw [List.length_set]; show 3 < (L2.wipe σ [2, 3]).length; omega)
    · cases b with
      | false =>
        simp only [Bool.false_eq_true, if_false]
        exact ⟨hlt, g, by rw [etake, trueWords_snoc]; exact hD⟩
      | true =>
        simp only [if_true]
        refine ⟨.str w', ?_, _, hD, ?_, hlt, ?_, ?_⟩
        · rw [List.getElem?_set_ne (by decide)]
          exact List.getElem?_set_self (by show 2 < (L2.wipe σ [2, 3]).length; omega)
        · rw [List.length_map]
          have e1 : (trueWords (l.take i)).length ≤ (l.take i).length := by
            unfold trueWords
            rw [List.length_map]
            exact List.length_filter_le _ _
          rw [List.length_take] at e1
          exact Nat.lt_of_le_of_lt (Nat.le_trans e1 (Nat.le_trans (Nat.min_le_right _ _) hl100)) (by decide)
        · intro a' u e
          rw [upd_ne fun z => by
            rw [z, hDn] at e
            cases e]
          exact g a' u e
        · rw [etake, trueWords_snoc, if_pos rfl, List.map_append]
          exact upd_same
  · refine .inl ⟨⟨vs, SqL.of hac, by omega⟩, ?_⟩
    have ei : i = l.length := by omega
    subst ei
    rw [List.take_length] at hD
    refine ⟨sp, Dn, trueWords l, rfl, rfl, .inl (SqL.of hD), ?_, ?_⟩
    · rw [hw1]
      simp only [List.map_cons, List.map_nil, List.sum_cons, List.sum_nil, List.length_cons, List.length_nil]
      omega
    · rw [hw1]
      exact h _ g
end
end Rf

/-! RErr2: `_law_error` called in the suite; `_law_refused` keeps what LamOk asks. -/
namespace Rf
open PySem PySem.Spec PyProof.Rows
open L2 (V Hp HO SqL SqT Rd upd upd_same upd_ne VK XK TE TT TA TS TG TGs TI WX Cx Ends OpR R2 rI rI0 PE PT PW PA PS PSs PG PGs PI It Inv RelV)
theorem run_err {X : Cx} {pins : List (Addr × Obj)} {σ : L2.St} {H : Hp} {s : Shared} {Q : VK} {a : Addr} {oe : Obj} {f : Addr} {x en : Str} {params : Arguments} {body : List Stmt} {scope : Scope} {dV kV doc pm cdv ct oc : Value} {an od : Option Addr} {osl : Array (Option Value)} {N : List Str} {t : TS}
    (lk : X.K.lookup f = some ⟨oc, od, .func (PySem.W.fnOf x x params body scope dV kV doc pm an cdv ct), osl⟩) (hcd : PySem.W.codeIn X.K cdv x = true) (S : L2.FnScope N [en] scope) (hr : L2H.RoomH 1 X.A) (hot : L2H.Hot1 X.A (a, oe)) (hp : (a, oe) ∈ X.pn)
    (hb : L2.Binds X.K (PySem.W.fnOf x x params body scope dV kV doc pm an cdv ct) [en] []) (I : Inv X pins σ H s)
    (ht : PSs (L2H.cxH C8.CX0 X.prog X.w X.K X.mg X.base N x scope f cdv X.A X.stack s H C8.E0 (a, oe)) body t) (hq : t { nx := fun _ H' => Q .non H', rt := Q } (L2.start N [.ref a]) H) :
    wpAny (model X.prog X.w) X.A (call (.ref f) [.ref a]) (L2.EP X pins σ Q) X.xe s := by
  have P1 := I.pin (a, oe) (List.mem_append_left _ hp)
  have hpin : L2H.PinOk X.stack H s (a, oe) := ⟨P1.1, P1.2.1, fun hm => (List.mem_cons.mp (I.stkSub a hm)).elim P1.2.2.1 P1.2.2.2.1, P1.2.2.2.2⟩
  have b := hb s [.ref a] I.kIn rfl
  rw [List.append_nil] at b
  have e0 := I.env0
  have KX : X.K.In s.heap := I.kIn
  have lim : s.heap.NoLimit := I.nolimit
  have r : L2.Vals [V.ref a] [Value.ref a] := .cons rfl .nil
  have hkind : ∀ y ∈ [en].zip [Value.ref a], scope.names.lookup y.1 = some .local ∨ (scope.names.lookup y.1 = some .cell ∧ ((cellsFrom (s.heap.objs.size + 1) scope.names []).lookup y.1).isSome = true) := fun ⟨n, v⟩ hy => by
    rcases S.par n (List.of_mem_zip hy).1 with q | q
    · exact .inl q
    · exact .inr ⟨q, PySem.W.cellsFrom_some _ _ _ (.inl q)⟩
  have core : codeAny (model X.prog X.w) X.A (.call (.ref f) ⟨[.ref a], []⟩) (L2.CR C8.CX0 X.stack X.prog X.w H s Q C8.E0) s := by
    refine codeAny_call_function hr.depth (KX _ _ lk) rfl S.co S.gen rfl (PySem.W.codeRec_of KX hcd) (b _ _ _ _ ?_)
    refine wpAny_newFunctionEnv_cells S.kind hkind fun env he s1 x1 => ?_
    subst he
    refine ⟨lim.keeps x1.toInCall.keep, codeAny_func ?_⟩
    have I1 : Inv (L2H.cxH C8.CX0 X.prog X.w X.K X.mg X.base N x scope f cdv X.A X.stack s H C8.E0 (a, oe)) [] (L2.start N [.ref a]) H s1 := L2H.inv_startH S hpin e0 rfl r x1
    refine wpAny_mono (ht.run [] s1 (L2.start N [.ref a]) H _ I1 hq) (fun fl s' hs => ?_) fun e s' hs => hs
    have fin : ∀ {σ' : L2.St} {H' : Hp} {v : V} {u : Value}, Inv (L2H.cxH C8.CX0 X.prog X.w X.K X.mg X.base N x scope f cdv X.A X.stack s H C8.E0 (a, oe)) [] σ' H' s' → RelV v u → Q v H' → L2.CE X.stack X.prog X.w H s Q u s' :=
      fun {σ' H' v u} J rv q => ⟨v, H', J.os, J.bare, J.base, J.hok, rv, q⟩
    cases fl with
    | ret u =>
      obtain ⟨v, σ', H', J, rv, q⟩ := hs
      exact fin J rv q
    | next =>
      obtain ⟨σ', H', J, q⟩ := hs
      exact fin (v := V.non) (u := Value.none) J rfl q
    | brk =>
      obtain ⟨_, _, _, q⟩ := hs
      exact False.elim q
    | cont =>
      obtain ⟨_, _, _, q⟩ := hs
      exact False.elim q
  refine wpAny_call (codeAny_mono core fun r s' hq => ?_)
  cases r with
  | error e => exact (show False from hq).elim
  | ok fl =>
    cases fl with
    | ret u => exact I.after hq
    | next => exact False.elim hq
    | brk => exact False.elim hq
    | cont => exact False.elim hq
/-- the classes and their words -/
def erTab : List (Nat × Str × Str) := [(1, "InvalidPlan", "plan"), (2, "InvalidHold", "hold"), (3, "InvalidSend", "send"), (4, "InvalidFile", "file"), (5, "InvalidLife", "life"), (6, "InvalidReaders", "readers"), (7, "InvalidCode", "code"), (8, "InvalidWords", "words"), (9, "InvalidStore", "store"), (10, "InvalidPart", "part"), (11, "InvalidHelpers", "helpers"), (12, "InvalidNumbers", "numbers"), (13, "InvalidLot", "lot"), (14, "InvalidTable", "table"), (15, "InvalidFacts", "facts"), (16, "InvalidNumber", "number"), (17, "InvalidText", "text"), (18, "Gone", "gone"), (19, "There", "there"), (20, "Unlike", "unlike"), (21, "NothingToUndo", "undo"), (22, "TooMany", "many")]
def pairsOf (n : Nat) : List (Str × Bool) := erTab.map fun t => (t.2.2, decide (n = t.1))
/-- what the globals say of the classes -/
structure ErF (K : PySem.W.Frag) (mg : Str → Option Value) (er : Nat → Option Str) (ad : Nat → Addr) (SEa : Addr) : Prop where
  se : mg "StoreError" = some (.ref SEa)
  cl : ∀ n x w, (n, x, w) ∈ erTab → mg x = some (.ref (ad n))
  ec : ∀ n, 1 ≤ n → n ≤ 21 → L2.ExcC K (ad n)
  ex : ∀ n, 1 ≤ n → n ≤ 21 → PySem.W.exmOne K (.ref (ad n)) (.ref SEa) = some true
  ki : ∀ n m, 1 ≤ n → n ≤ 21 → 1 ≤ m → m ≤ 22 → PySem.W.kitOne K (.ref (ad n)) (.ref (ad m)) = some (decide (n = m))
  er : ∀ n x, er n = some x → 1 ≤ n ∧ n ≤ 21 ∧ ∃ w, (n, x, w) ∈ erTab
theorem words_ok : ∀ n : Nat, n < 22 → 1 ≤ n → trueWords (pairsOf n) = [⟨(errWord n).toArray⟩] ∧ (⟨(errWord n).toArray⟩ : Str).length ≤ 1000 := by decide +kernel
section
variable {Y : Cx} {p : Addr × Obj} {n : Nat} {ad : Nat → Addr} {SEa : Addr} {er : Nat → Option Str} {q1 q2 q3 q4 q5 q6 q7 q8 : Pos} {j k : Nat}
theorem e_pr (c : EC Y p (ad n)) (F : ErF Y.K Y.mg er ad SEa) (hn : 1 ≤ n ∧ n ≤ 21) (m : Nat) {x w : Str} (hm : (m, x, w) ∈ erTab) (h1 : 1 ≤ m ∧ m ≤ 22) (hg : L2.Gl Y x) (hdb : (x == ("__debug__" : Str)) = false := by decide) :
    PE Y (.Tuple [.Constant (.str w) j q1, .Call (.Name "isinstance" q2) [.Name "e" q3, .Name x q4] [] q5] k q6) (fun σ H Q => σ[0]? = some (some (.ref p.1)) ∧ ∀ v H', Gw H H' → IsPr H' v w (decide (n = m)) → Q v H') :=
  e_pair c hg (F.cl m x w hm) (F.ki n m hn.1 hn.2 h1.1 h1.2) hdb
abbrev tFirst (a : Addr) (l : List (Str × Bool)) : TS := fun D σ H => σ[0]? = some (some (.ref a)) ∧ ∀ v H', Gw H H' → IsLs H' v l → D.nx (σ.set 1 (some v)) H'
abbrev tMore (a : Addr) (l : List (Str × Bool)) : TS := fun D σ H => σ[0]? = some (some (.ref a)) ∧ ∃ v l0, σ[1]? = some (some v) ∧ IsLs H v l0 ∧ l0.length + l.length ≤ 100 ∧ ∀ v H', Gw H H' → IsLs H' v (l0 ++ l) → D.nx (σ.set 1 (some v)) H'
abbrev tLast (sp : Str) : TS := fun D σ H => ∃ v l, σ[1]? = some (some v) ∧ σ.length = 4 ∧ l.length ≤ 100 ∧ sp.length ≤ 1000 ∧ IsLs H v l ∧ (∃ w, trueWords l = [w] ∧ w.length ≤ 1000 ∧ ∀ H', Gw H H' → D.rt (.str w) H')
/-- how far the list has come -/
def StE (H0 : Hp) (a : Addr) (l : List (Str × Bool)) (σ : L2.St) (H : Hp) : Prop := Gw H0 H ∧ σ.length = 4 ∧ σ[0]? = some (some (.ref a)) ∧ ∃ v, σ[1]? = some (some v) ∧ IsLs H v l
theorem go_first {a : Addr} {l : List (Str × Bool)} {u : TS} {D : Ends} {σ : L2.St} {H : Hp} (hl : σ.length = 4) (h0 : σ[0]? = some (some (.ref a))) (h : ∀ σ' H', StE H a l σ' H' → u D σ' H') : L2.tSeq (tFirst a l) u D σ H :=
  ⟨h0, fun v H' g i => h _ _ ⟨g, by rw [List.length_set]; exact hl, by rw [List.getElem?_set_ne (by decide)]; exact h0, v, List.getElem?_set_self (by omega), i⟩⟩
theorem go_more {H0 : Hp} {a : Addr} {l0 l : List (Str × Bool)} {u : TS} {D : Ends} {σ : L2.St} {H : Hp} (s : StE H0 a l0 σ H) (hz : l0.length + l.length ≤ 100) (h : ∀ σ' H', StE H0 a (l0 ++ l) σ' H' → u D σ' H') : L2.tSeq (tMore a l) u D σ H := by
  obtain ⟨g0, hl, h0, v, h1, i⟩ := s
  exact ⟨h0, v, l0, h1, i, hz, fun v' H' g i' => h _ _ ⟨g0.trans g, by rw [List.length_set]; exact hl, by rw [List.getElem?_set_ne (by decide)]; exact h0, v', List.getElem?_set_self (by omega), i'⟩⟩
theorem go_last {H0 : Hp} {a : Addr} {sp : Str} {l : List (Str × Bool)} {D : Ends} {σ : L2.St} {H : Hp} (s : StE H0 a l σ H) (hz : l.length ≤ 100) (hsp : sp.length ≤ 1000) {w : Str} (h1 : trueWords l = [w]) (h2 : w.length ≤ 1000) (h : ∀ H', Gw H0 H' → D.rt (.str w) H') : tLast sp D σ H := by
  obtain ⟨g0, hl, h0, v, h3, i⟩ := s
  exact ⟨v, l, h3, hl, hz, hsp, i, w, h1, h2, fun H' g => h H' (g0.trans g)⟩
end
end Rf

/-! RDef: a def keeps its promise; all defs of a text. -/
namespace Rf
open PySem (Str Addr Value Pos Expr Stmt Scope Program World Heap Shared CmpOp Operator UnaryOp Obj FuncData Arguments Around Env)
open L2 (V Hp HO SqL SqT Rd upd upd_same upd_ne VK XK TE TT TA TS TG TGs TI WX Cx Ends OpR R2 rI rI0 PE PT PW PA PS PSs PG PGs PI It Inv)
/-- a text -/
structure Txt where
  P : Program
  w : World
  K : PySem.W.Frag
  mg : Str → Option Value
  base : Heap
  nm : Names
  ids : Nat → Bool
  tb : List (Addr × Str)
  W : Nat
  pr : Nat → Option Fn
abbrev Txt.gm (T : Txt) (k : Nat) (N : List Str) (nd : N.Nodup) (lm : Option (Addr × Str)) : Gm := ⟨T.P, T.w, T.K, T.mg, T.base, ⟨T.nm, T.ids, run T.W T.pr k⟩, k, N, nd, fun _ => true, T.tb, lm⟩
abbrev Txt.G (T : Txt) : Gl := ⟨T.K, T.mg, T.nm, T.ids, T.tb⟩
theorem okC {P : Program} {w : World} {K : PySem.W.Frag} {mg : Str → Option Value} {base : Heap} {x qual : Str} {params : Arguments} {body : List Stmt} {scope : Scope} {dvs : List V} {kws : List (Str × V)} {f : Addr} {fd : FuncData} {CX : L2.CXT} {N ps : List Str} {k : Nat} {sp : L2.Sp}
    (F : L2.FunD K x qual params body scope dvs kws f fd) (S : L2.FnScope N ps scope) (len : ∀ vs H Q E, sp vs H Q E → vs.length = ps.length)
    (hbody : ∀ (cdv : Value) (A : Around) (outer : List Env) (s : Shared) (H : Hp) (vs : List V) (Q : VK) (E : XK), (∃ (oc : Value) (od : Option Addr) (osl : Array (Option Value)), K.lookup f = some ⟨oc, od, .func fd, osl⟩ ∧ fd.code = cdv) → L2.Room k (A.deeper (PyProof.Rows.envOfC qual scope s.heap.objs.size f cdv)) → sp vs H Q E →
      ∃ t, PSs (L2.cxOf CX P w K mg base N qual scope f cdv A outer s H E) body t ∧ t { nx := fun _ H' => Q .non H', rt := Q } (L2.start N vs) H) : L2.FnOk P w K mg base CX (k + 1) f fd ps sp := by
  obtain ⟨oc, od, dV, kV, doc, pm, an, cdv, ct, osl, rfl, lk, hcd, _, _⟩ := F.ex
  exact L2.fn_of lk hcd S len fun A outer s H vs Q E hr hsp => hbody cdv A outer s H vs Q E ⟨oc, od, osl, lk, rfl⟩ hr hsp
/-- the slots at a def's entry -/
def env0 (slots : Nat) (ds : List D) : En := ds.map (fun d => some (.val d)) ++ List.replicate (slots - ds.length) none
section
variable {G : Gl} {Z : Addr → Prop} {ρ : List Addr} {m : M} {H : Hp} {ds : List D} {vs : List V} {N : List Str}
theorem sr_start (mr : MR G Z ρ noO m H) (r : Reps G H (Wr Z ρ noO) ρ ds vs) (hl : ds.length ≤ N.length) : SR G Z ρ noO (env0 N.length ds) m (L2.start N vs) H := by
  have hv := r.len
  refine ⟨mr, ?_, (fun i j a h => nomatch h), (fun i a h => nomatch h), (fun i a h => nomatch h), (fun i s h => ?_), (fun i h => rfl)⟩
  · unfold L2.start env0
    rw [List.length_append, List.length_append, List.length_map, List.length_map, List.length_replicate, List.length_replicate, hv]
  · unfold env0 at h
    by_cases hi : i < ds.length
    · rw [List.getElem?_append_left (by simpa using hi), List.getElem?_map] at h
      obtain ⟨d, hd, h⟩ := Option.map_eq_some_iff.mp h
      cases h
      obtain ⟨v, ev, rv⟩ := r.get hd
      refine ⟨some v, ?_, rfl, v, rfl, rv⟩
      unfold L2.start
      rw [List.getElem?_append_left (by rw [List.length_map, ← hv]; exact hi), List.getElem?_map, ev]
      rfl
    · rw [List.getElem?_append_right (by simpa using hi), List.getElem?_replicate] at h
      split at h <;> cases h
end
/-- the def n of the text -/
structure DefOk (T : Txt) (n : Nat) (x : Str) : Prop where
  ex : ∃ (f : Addr) (fd : FuncData) (N ps : List Str) (nd : N.Nodup) (params : Arguments) (body : List Stmt) (scope : Scope) (fn : Fn) (lm : Option (Addr × Str)), T.mg x = some (.ref f) ∧ L2.FunD T.K x x params body scope [] [] f fd ∧ L2.FnScope N ps scope ∧ L2.Binds T.K fd ps [] ∧
    T.pr n = some fn ∧ fn.params = ps.length ∧ fn.slots = N.length ∧ (∀ c q, lm = some (c, q) → fd.code = .ref c ∧ q = x ++ ".<locals>.") ∧
    ∀ k, (∀ n x, T.ids n = true → T.nm.fn n = some x → CallOk (T.gm k N nd lm) n x) → ∀ Wx, SSs (T.gm k N nd lm) scope Wx T.W body fn.body
theorem callOk_any {T : Txt} {k : Nat} {N N' : List Str} {nd : N.Nodup} {nd' : N'.Nodup} {lm lm' : Option (Addr × Str)} {n : Nat} {x : Str} (c : CallOk (T.gm k N nd lm) n x) : CallOk (T.gm k N' nd' lm') n x := ⟨c.ex⟩
theorem run_len {W : Nat} {pr : Nat → Option Fn} {k n : Nat} {fn : Fn} (h : pr n = some fn) {ds : List D} {m : M} (hl : ds.length ≠ fn.params) : run W pr k n ds m = .bad := by
  cases k with
  | zero => rfl
  | succ k =>
    rw [run, h]
    show Fn.go W (run W pr k) fn ds m = .bad
    unfold Fn.go
    rw [if_neg hl]
theorem calls_ok {T : Txt} (hd : ∀ n x, T.ids n = true → T.nm.fn n = some x → DefOk T n x) : ∀ (k : Nat) (n : Nat) (x : Str), T.ids n = true → T.nm.fn n = some x → ∀ (N : List Str) (nd : N.Nodup) (lm : Option (Addr × Str)), CallOk (T.gm k N nd lm) n x
  | 0, n, x, h1, h2, N, nd, lm => by
    obtain ⟨f, fd, N', ps, nd', params, body, scope, fn, lm', hm, F, S, hb, hp, hpl, hsl, hc, hbd⟩ := (hd n x h1 h2).ex
    refine ⟨f, fd, ps, hm, F.kp, hb, ⟨fun vs H Q E h => h.1, fun A outer s H args us vs Q E hr e0 hb r h => ?_⟩, fun ds m hl => rfl⟩
    obtain ⟨_, Z, ρ, ds, m, _, _, h⟩ := h
    exact h.elim
  | k + 1, n, x, h1, h2, N, nd, lm => by
    obtain ⟨f, fd, N', ps, nd', params, body, scope, fn, lm', hm, F, S, hb, hp, hpl, hsl, hc, hbd⟩ := (hd n x h1 h2).ex
    refine ⟨f, fd, ps, hm, F.kp, hb, ?_, fun ds m hl => run_len hp (by rw [hpl]; exact hl)⟩
    have e3 : 3 * (k + 1) = (3 * k + 2) + 1 := by omega
    show L2.FnOk T.P T.w T.K T.mg T.base (L2N.CX T.P T.w) (3 * (k + 1)) f fd ps (spF (run T.W T.pr (k + 1)) T.G n ps.length)
    rw [e3]
    refine okC (N := N') F S (fun vs H Q E h => h.1) fun cdv A outer s H vs Q E hlk hr hsp => ?_
    obtain ⟨hvl, Z, ρ, ds, m, mr, r, kf⟩ := hsp
    have ih : ∀ n x, T.ids n = true → T.nm.fn n = some x → CallOk (T.gm k N' nd' lm') n x := fun n x h1 h2 => calls_ok hd k n x h1 h2 N' nd' lm'
    obtain ⟨t, pt, qt⟩ := hbd k ih (fun cls d _ H => E cls d H)
    obtain ⟨oc, od, osl, lk, hcode⟩ := hlk
    have ok : Ok (T.gm k N' nd' lm') scope (fun cls d _ H => E cls d H) (L2.cxOf (L2N.CX T.P T.w) T.P T.w T.K T.mg T.base N' x scope f cdv A outer s H E) :=
      { pr := rfl, w := rfl, K := rfl, mg := rfl, bs := rfl, N := rfl, sc := rfl, calm := rfl, room := hr.mono (by show 3 * k ≤ 3 * k + 2; omega), tk := L2N.takes_of rfl rfl rfl rfl, fn := fun _ _ => rfl,
        lam := fun c q h => by
          obtain ⟨h1, h2⟩ := hc c q h
          exact ⟨hcode.symm.trans h1, by rw [h2] <;> rfl, hr⟩
        calls := ih }
    refine ⟨t, pt _ ok ⟨L2.passes_of rfl, rfl, rfl⟩, ?_⟩
    have hN : ps.length ≤ N'.length := by
      have := congrArg List.length S.pre
      rw [List.length_take] at this
      omega
    have hds : ds.length = ps.length := by rw [r.len]; exact hvl
    have sr := sr_start (N := N') mr r (by rw [hds]; exact hN)
    refine qt Z ⟨ρ, H, fun a => a ∈ ρ⟩ ρ noO (env0 N'.length ds) m (L2.start N' vs) H _ ⟨sr, fun _ _ h _ _ => h, fun _ h => h, List.prefix_refl _, fun _ h => .inl h, fun i a h => nomatch h⟩ ?_
    have e1 : run T.W T.pr (k + 1) n ds m = (match fn.body.exs T.W (run T.W T.pr k) (env0 N'.length ds) m with
        | .nx _ m' => R.ok .non m'
        | .rt d m' => .ok d m'
        | .exc c _ m' => .exc c m'
        | .bad => .bad) := by
      rw [run, hp]
      show Fn.go T.W (run T.W T.pr k) fn ds m = _
      unfold Fn.go
      rw [if_pos (by rw [hpl]; exact hds), hsl]
      rfl
    rw [e1] at kf
    have cv : ∀ {ρ' m' H'}, StpB T.G Z ⟨ρ, H, fun a => a ∈ ρ⟩ ρ' m' H' → StpF T.G Z ρ H ρ' m' H' := fun q => ⟨q.mr, q.kp, q.dm, q.pre, q.new⟩
    show KO T.G _ Z ⟨ρ, H, fun a => a ∈ ρ⟩ _ (fn.body.exs T.W (run T.W T.pr k) (env0 N'.length ds) m)
    cases rb : fn.body.exs T.W (run T.W T.pr k) (env0 N'.length ds) m with
    | bad => rw [rb] at kf; exact kf
    | nx e' m' =>
      rw [rb] at kf
      exact fun ρ' O σ' H' q => kf .non ρ' H' (cv q.fin) (by rw [Rep])
    | rt d m' =>
      rw [rb] at kf
      exact fun v ρ' H' q r => kf v ρ' H' (cv q) r
    | exc c e' m' =>
      rw [rb] at kf
      exact fun cls dx ρ' σ' H' q er => kf cls dx ρ' H' (cv q) er
end Rf

/-! RBlt: the built-ins' names, a text's facts, checks by Bool. -/
namespace Rf
open PySem (Str Addr Value Pos Expr Stmt Scope Program World Heap Shared CmpOp Operator UnaryOp Obj FuncData Arguments Around Env)
open L2 (V Hp HO WX Cx)
/-- what a text's globals are -/
structure TF (K : PySem.W.Frag) (mg : Str → Option Value) (bl fl : List Str) (cs : List (Str × Int)) (er : Nat → Option Str) : Prop where
  fns : ∀ x, fl.contains x = true → ∃ f, mg x = some (.ref f)
  blt : ∀ x, bl.contains x = true → mg x = none
  int : ∀ q ∈ cs, ∃ t, mg q.1 = some (.int q.2 t)
  err : ∀ n x, er n = some x → ∃ (C : Addr) (bmB : List Value) (B newId initId : String), PySem.ExcBaseFacts B newId initId bmB ∧ PySem.W.excIn K C bmB newId = true ∧ mg x = some (.ref C) ∧ PySem.W.keepIn K (.ref C) = true ∧ PySem.W.subIn K (.ref C) (.type "BaseException") = some true ∧ PySem.W.typeIn K (.ref C) = some (.type "type")
section
variable {g : Gm} {sc : Scope} {Wx : WX} {x : Str} {pos : Pos} {bl fl : List Str} {cs : List (Str × Int)} {er : Nat → Option Str}
theorem b_len (T : TF g.K g.mg bl fl cs er) (h : sc.names.lookup ("len" : Str) = some .globalImplicit) (hb : bl.contains ("len" : Str) = true) : isBlt g sc "len" (.builtin "len") := ⟨h, T.blt _ hb, by decide +kernel, by decide, by decide⟩
theorem b_sum (T : TF g.K g.mg bl fl cs er) (h : sc.names.lookup ("sum" : Str) = some .globalImplicit) (hb : bl.contains ("sum" : Str) = true) : isBlt g sc "sum" (.builtin "sum") := ⟨h, T.blt _ hb, by decide +kernel, by decide, by decide⟩
theorem b_all (T : TF g.K g.mg bl fl cs er) (h : sc.names.lookup ("all" : Str) = some .globalImplicit) (hb : bl.contains ("all" : Str) = true) : isBlt g sc "all" (.builtin "all") := ⟨h, T.blt _ hb, by decide +kernel, by decide, by decide⟩
theorem b_min (T : TF g.K g.mg bl fl cs er) (h : sc.names.lookup ("min" : Str) = some .globalImplicit) (hb : bl.contains ("min" : Str) = true) : isBlt g sc "min" (.builtin "min") := ⟨h, T.blt _ hb, by decide +kernel, by decide, by decide⟩
theorem b_max (T : TF g.K g.mg bl fl cs er) (h : sc.names.lookup ("max" : Str) = some .globalImplicit) (hb : bl.contains ("max" : Str) = true) : isBlt g sc "max" (.builtin "max") := ⟨h, T.blt _ hb, by decide +kernel, by decide, by decide⟩
theorem b_sorted (T : TF g.K g.mg bl fl cs er) (h : sc.names.lookup ("sorted" : Str) = some .globalImplicit) (hb : bl.contains ("sorted" : Str) = true) : isBlt g sc "sorted" (.builtin "sorted") := ⟨h, T.blt _ hb, by decide +kernel, by decide, by decide⟩
theorem b_isinstance (T : TF g.K g.mg bl fl cs er) (h : sc.names.lookup ("isinstance" : Str) = some .globalImplicit) (hb : bl.contains ("isinstance" : Str) = true) : isBlt g sc "isinstance" (.builtin "isinstance") := ⟨h, T.blt _ hb, by decide +kernel, by decide, by decide⟩
theorem b_int (T : TF g.K g.mg bl fl cs er) (h : sc.names.lookup ("int" : Str) = some .globalImplicit) (hb : bl.contains ("int" : Str) = true) : isBlt g sc "int" (.type "int") := ⟨h, T.blt _ hb, by decide +kernel, by decide, by decide⟩
theorem b_str (T : TF g.K g.mg bl fl cs er) (h : sc.names.lookup ("str" : Str) = some .globalImplicit) (hb : bl.contains ("str" : Str) = true) : isBlt g sc "str" (.type "str") := ⟨h, T.blt _ hb, by decide +kernel, by decide, by decide⟩
theorem b_bool (T : TF g.K g.mg bl fl cs er) (h : sc.names.lookup ("bool" : Str) = some .globalImplicit) (hb : bl.contains ("bool" : Str) = true) : isBlt g sc "bool" (.type "bool") := ⟨h, T.blt _ hb, by decide +kernel, by decide, by decide⟩
theorem b_list (T : TF g.K g.mg bl fl cs er) (h : sc.names.lookup ("list" : Str) = some .globalImplicit) (hb : bl.contains ("list" : Str) = true) : isBlt g sc "list" (.type "list") := ⟨h, T.blt _ hb, by decide +kernel, by decide, by decide⟩
theorem b_tuple (T : TF g.K g.mg bl fl cs er) (h : sc.names.lookup ("tuple" : Str) = some .globalImplicit) (hb : bl.contains ("tuple" : Str) = true) : isBlt g sc "tuple" (.type "tuple") := ⟨h, T.blt _ hb, by decide +kernel, by decide, by decide⟩
theorem b_range (T : TF g.K g.mg bl fl cs er) (h : sc.names.lookup ("range" : Str) = some .globalImplicit) (hb : bl.contains ("range" : Str) = true) : isBlt g sc "range" (.type "range") := ⟨h, T.blt _ hb, by decide +kernel, by decide, by decide⟩
theorem b_zip (T : TF g.K g.mg bl fl cs er) (h : sc.names.lookup ("zip" : Str) = some .globalImplicit) (hb : bl.contains ("zip" : Str) = true) : isBlt g sc "zip" (.type "zip") := ⟨h, T.blt _ hb, by decide +kernel, by decide, by decide⟩
theorem b_enumerate (T : TF g.K g.mg bl fl cs er) (h : sc.names.lookup ("enumerate" : Str) = some .globalImplicit) (hb : bl.contains ("enumerate" : Str) = true) : isBlt g sc "enumerate" (.type "enumerate") := ⟨h, T.blt _ hb, by decide +kernel, by decide, by decide⟩
/-- a def as a value -/
theorem se_fnT {n : Nat} (T : TF g.K g.mg bl fl cs er) (hg : sc.names.lookup x = some .globalImplicit) (hi : g.C.ids n = true ∧ g.C.nm.fn n = some x) (hf : fl.contains x = true) (hdb : (x == ("__debug__" : Str)) = false := by decide) : SE g sc Wx .rep (.Name x pos) (.con (.fn n)) := by
  obtain ⟨f, h⟩ := T.fns x hf
  exact se_fn hg hi.1 hi.2 h hdb
/-- a module's number -/
theorem se_const {i : Int} (T : TF g.K g.mg bl fl cs er) (hg : sc.names.lookup x = some .globalImplicit) (hc : (x, i) ∈ cs) (hdb : (x == ("__debug__" : Str)) = false := by decide) : SE g sc Wx .rep (.Name x pos) (.con (.int i)) := by
  obtain ⟨t, h⟩ := T.int _ hc
  exact se_glob (v := .int i) hg h ⟨t, rfl⟩ (fun _ _ _ => rep_int i) hdb
theorem err_ok {n : Nat} (T : TF g.K g.mg bl fl cs er) (hn : er n = some x) (h : g.C.nm.er n = some x) : ErrOk g n x := by
  obtain ⟨C, bmB, B, newId, initId, h1, h2, h3, h4, h5, h6⟩ := T.err n x hn
  exact ⟨C, bmB, B, newId, initId, h1, h2, h3, h4, h5, h6, h⟩
end
/-- the names of a comprehension's block, by a look -/
def blkB (N : List Str) (sc scope : Scope) (own : List (Str × Nat)) : Bool :=
  decide (scope.kind = .function) && scope.names.all (fun y => decide (scope.names.lookup y.1 = some y.2)) && own.all (fun p => decide (N[p.2]? = some p.1)) && scope.names.all (fun y => !decide (y.2 = .free) || (decide (sc.names.lookup y.1 = some .cell) || decide (sc.names.lookup y.1 = some .free))) &&
    scope.names.all (fun y => !(decide (y.2 = .local) || decide (y.2 = .cell)) || (decide (y.1 ∈ own.map (·.1)) || decide (y.1 ∉ N)))
theorem blk_by {N : List Str} {sc scope : Scope} {own : List (Str × Nat)} (h : blkB N sc scope own = true) : L2.BlkOk N sc scope own := by
  unfold blkB at h
  simp only [Bool.and_eq_true, Bool.or_eq_true, Bool.not_eq_true', decide_eq_true_eq, decide_eq_false_iff_not, List.all_eq_true] at h
  obtain ⟨⟨⟨⟨h1, h2⟩, h3⟩, h4⟩, h5⟩ := h
  refine ⟨h1, h2, h3, fun y hy e => ?_, fun y hy e => ?_⟩
  · rcases h4 y hy with q | q
    · exact absurd e q
    · exact q
  · rcases h5 y hy with q | q
    · simp only [Bool.or_eq_false_iff, decide_eq_false_iff_not] at q
      exact absurd e fun z => z.elim q.1 q.2
    · exact q
def slotsB (t : T) (own : List (Str × Nat)) : Bool := t.slots.all fun i => (own.map (·.2)).contains i
theorem slots_by {t : T} {own : List (Str × Nat)} (h : slotsB t own = true) : ∀ i ∈ t.slots, i ∈ own.map (·.2) := fun i hi => by
  unfold slotsB at h
  rw [List.all_eq_true] at h
  simpa using h i hi
/-- the def that holds a lambda: its code object, its table -/
structure LamAt (g : Gm) (q : Str) : Prop where
  ex : ∃ c Pt, g.lm = some (c, q) ∧ LamX.TabB g.base g.mg c Pt ∧ (Pt, q ++ "<lambda>") ∈ g.tb ∧ ∀ p ∈ g.tb, p.1 = Pt → p.2 = q ++ "<lambda>"
section
variable {g : Gm} {sc scope : Scope} {Wx : WX} {k : Kd} {body : Expr} {A : E} {x : Str} {params : Arguments} {p lpos pos : Pos} {q : Str}
theorem se_ref (hL : LamOk g x) (hA : LamAt g q) (hg : sc.names.lookup x = some .globalImplicit) (hS : LamX.lamSB sc scope = true)
    (hb : ∀ E : L2.XK, SE g.lam scope (fun cls d _ H => E cls d H) k body A) (hdef : ∀ env, PySem.defaultsOf params env = ([], []) := by intro _; rfl)
    (hbind : ∀ (q : Str) (cl : List (Str × Addr)) (pm cv ctv : Value), PySem.bindArgs (PySem.W.kla_fn "<lambda>" q params body scope cl pm cv ctv) ⟨[], []⟩ = pure [] := by intros; rfl) :
    SE g sc Wx .rep (.Call (.Name x p) [.Lambda params body scope lpos] [] pos) (.refused A) := by
  obtain ⟨c, Pt, h1, h2, h3, h4⟩ := hA.ex
  exact se_refused hL hg h1 h2 h3 h4 hS hb hdef hbind
end
end Rf

/-! RErr3: `_law_refused` is what LamOk asks. -/
namespace Rf
open PySem PySem.Spec PyProof.Rows
open L2 (V Hp HO SqL SqT Rd upd upd_same upd_ne VK XK TE TT TA TS TG TGs TI WX Cx Ends OpR R2 rI rI0 PE PT PW PA PS PSs PG PGs PI It Inv RelV)
theorem vstr_nil : (V.str ("" : Str)) = vstr [] := rfl
/-- what `_law_error`'s body does for the class n -/
def ErrBody (K : PySem.W.Frag) (mg : Str → Option Value) (ad : Nat → Addr) (NE : List Str) (sE : Scope) (bE : List Stmt) : Prop :=
  ∀ (Y : Cx) (p : Addr × Obj) (n : Nat), EC Y p (ad n) → 1 ≤ n ∧ n ≤ 21 → Y.K = K → Y.mg = mg → Y.env.scope = sE → Y.N.Nodup → ∃ t, PSs Y bE t ∧ ∀ (Q : VK) (H : Hp), (∀ H', Gw H H' → Q (vstr (errWord n)) H') → t { nx := fun _ H' => Q .non H', rt := Q } (L2.start NE [.ref p.1]) H
theorem lam_ok {g : Gm} {er : Nat → Option Str} {ad : Nat → Addr} {SEa : Addr} (F : ErF g.K g.mg er ad SEa) (hnm : ∀ n x, g.C.nm.er n = some x → er n = some x)
    {pR pE : Arguments} {bR bE : List Stmt} {sR sE : Scope} {fR fE : Addr} {fdR fdE : FuncData} {j : Nat} {p1 p2 p3 p4 p5 p6 p7 p8 p9 p10 p11 p12 : Pos}
    (FR : L2.FunD g.K "_law_refused" "_law_refused" pR bR sR [] [] fR fdR) (mR : g.mg "_law_refused" = some (.ref fR)) (FE : L2.FunD g.K "_law_error" "_law_error" pE bE sE [] [] fE fdE) (mE : g.mg "_law_error" = some (.ref fE))
    (SR : L2.FnScope (["call", "e"] : List Str) (["call"] : List Str) sR) (SE' : L2.FnScope (["e", "some", "word_so", "good"] : List Str) (["e"] : List Str) sE) (bindR : L2.Binds g.K fdR (["call"] : List Str) []) (bindE : L2.Binds g.K fdE (["e"] : List Str) [])
    (hbR : bR = [.Try [.Expr (.Call (.Name "call" p1) [] [] p2) p3] [.ExceptHandler (some (.Name "StoreError" p4)) (some "e") [.Return (some (.Call (.Name "_law_error" p5) [.Name "e" p6] [] p7)) p8] p9] [] [] p10, .Return (some (.Constant (.str "") j p11)) p12])
    (hre : sR.names.lookup ("e" : Str) = some .local) (hrs : sR.names.lookup ("StoreError" : Str) = some .globalImplicit) (hrl : sR.names.lookup ("_law_error" : Str) = some .globalImplicit) (hrc : sR.names.lookup ("call" : Str) = some .local)
    (hee : sE.names.lookup ("e" : Str) = some .local) (hes : sE.names.lookup ("some" : Str) = some .local) (hei : sE.names.lookup ("isinstance" : Str) = some .globalImplicit) (hmi : g.mg "isinstance" = none)
    (hE : ErrBody g.K g.mg ad (["e", "some", "word_so", "good"] : List Str) sE bE) : LamOk g "_law_refused" := by
  obtain ⟨ocR, odR, dVR, kVR, docR, pmR, anR, cdR, ctR, oslR, rfl, lkR, hcdR, _, _⟩ := FR.ex
  obtain ⟨ocE, odE, dVE, kVE, docE, pmE, anE, cdE, ctE, oslE, rfl, lkE, hcdE, _, _⟩ := FE.ex
  refine ⟨fR, pR, bR, sR, dVR, kVR, docR, pmR, cdR, ctR, ocR, anR, odR, oslR, (["call", "e"] : List Str), "call", mR, FR.kp, lkR, hcdR, bindR, SR, rfl, .inl hrc, by decide, by decide, by decide, ?_⟩
  intro X hP hw hK hmg hbs hroom q f c' s H Q tl act hco h
  subst hbR
  have h : tl (EX g.G Q) H (fun _ H' => Q (vstr []) H') := h
  have hgl : ∀ {x : Str}, sR.names.lookup x = some .globalImplicit → L2.Gl (L2.cxOf C8.CX0 X.prog X.w X.K X.mg X.base (["call", "e"] : List Str) "_law_refused" sR fR cdR X.A X.stack s H C8.E0).nox x := fun {x} h => h
  have hroomE : L2H.RoomH 1 (X.A.deeper (PyProof.Rows.envOfC "_law_refused" sR s.heap.objs.size fR cdR)) := L2H.roomH_of (L2.Room.mono (L2.Room.deeper (k := 1) (hroom.mono (by omega)) _) (Nat.le_refl _))
  -- the suite
  have hsu : ∀ (a : Addr) (oe : Obj) (cls : Value) (d : Option Addr) (pn : List (Addr × Obj)), L2N.Zn cls d oe → (∃ vs, oe.data = .fields vs) →
      PSs ((L2.cxOf C8.CX0 X.prog X.w X.K X.mg X.base (["call", "e"] : List Str) "_law_refused" sR fR cdR X.A X.stack s H C8.E0).nox.suite a ((a, oe) :: pn)) [.Return (some (.Call (.Name "_law_error" p5) [.Name "e" p6] [] p7)) p8]
        (fun D σ H => (∃ σ0 : L2.St, σ = σ0.set 1 (some (.ref a))) ∧ ∃ n, cls = .ref (ad n) ∧ d = none ∧ (1 ≤ n ∧ n ≤ 21) ∧ ∀ H', Gw H H' → D.rt (vstr (errWord n)) H') := by
    intro a oe cls d pn hz hf
    refine ⟨fun pins s1 σ H1 D I hr => ?_⟩
    obtain ⟨⟨σ0, rfl⟩, n, rfl, rfl, hn, hq⟩ := hr
    have hlen : (σ0.set 1 (some (V.ref a))).length = 2 := I.len
    have h1 : (σ0.set 1 (some (V.ref a)))[1]? = some (some (.ref a)) := List.getElem?_set_self (by rw [List.length_set] at hlen; omega)
    have hot : L2H.Hot1 (((L2.cxOf C8.CX0 X.prog X.w X.K X.mg X.base (["call", "e"] : List Str) "_law_refused" sR fR cdR X.A X.stack s H C8.E0).nox.suite a ((a, oe) :: pn)).A) (a, oe) := by
      obtain ⟨vs, hv⟩ := hf
      exact ⟨rfl, vs, hv, hz.2.2 vs hv⟩
    have hcall : PE ((L2.cxOf C8.CX0 X.prog X.w X.K X.mg X.base (["call", "e"] : List Str) "_law_refused" sR fR cdR X.A X.stack s H C8.E0).nox.suite a ((a, oe) :: pn)) (.Call (.Name "_law_error" p5) [.Name "e" p6] [] p7)
        (fun σ H Q => σ[1]? = some (some (.ref a)) ∧ ∀ H', Gw H H' → Q (vstr (errWord n)) H') := by
      refine ⟨fun pins s2 σ2 H2 Q2 I2 hw2 => ?_⟩
      obtain ⟨hs1, hq2⟩ := hw2
      refine wpAny_Call_Name_kw (L2.ld_glob I2 (hgl hrl) (by show X.mg _ = _; rw [hmg]; exact mE) ?_ (by decide))
      have he : PE ((L2.cxOf C8.CX0 X.prog X.w X.K X.mg X.base (["call", "e"] : List Str) "_law_refused" sR fR cdR X.A X.stack s H C8.E0).nox.suite a ((a, oe) :: pn)) (.Name "e" p6) (L2.tVar 1) := L2.pe_var rfl (.inl hre)
      refine PySem.W.callWith_K (h₀ := X.base) I2.ok.mod.kin (by show PySem.W.keepIn X.K _ = _; rw [hK]; exact FE.kp) (L2.thn ((L2.pa_cons he L2.pa_nil).run p7 pins s2 σ2 H2 (fun vs H1 => vs = [V.ref a] ∧ H2 = H1) I2 ⟨.ref a, hs1, rfl, rfl⟩) fun us s3 hh => ?_) rfl rfl
      obtain ⟨vs, H3, I3, r3, ev, eH⟩ := hh
      subst ev eH
      refine ⟨I3.kIn, ?_⟩
      cases r3 with
      | cons ru rn =>
        cases rn
        cases ru
        have cY : EC (L2H.cxH C8.CX0 X.prog X.w X.K X.mg X.base (["e", "some", "word_so", "good"] : List Str) "_law_error" sE fE cdE ((X.A.deeper (PyProof.Rows.envOfC "_law_refused" sR s.heap.objs.size fR cdR)).mark (some (.ref a))) ((L2.cxOf C8.CX0 X.prog X.w X.K X.mg X.base (["call", "e"] : List Str) "_law_refused" sR fR cdR X.A X.stack s H C8.E0).nox.suite a ((a, oe) :: pn)).stack s3 H2 C8.E0 (a, oe)).nox (a, oe) (ad n) :=
          { pn := rfl, hot := hot, C := by show L2.ExcC X.K _; rw [hK]; exact F.ec n hn.1 hn.2, hz := ⟨hz.1, hz.2.1⟩, hf := hf, N := rfl, ve := .inl hee, vs := hes, gi := hei, mi := by show X.mg _ = _; rw [hmg]; exact hmi }
        obtain ⟨t, pt, ht⟩ := hE _ _ n cY hn hK hmg rfl SE'.nd
        refine run_err (X := (L2.cxOf C8.CX0 X.prog X.w X.K X.mg X.base (["call", "e"] : List Str) "_law_refused" sR fR cdR X.A X.stack s H C8.E0).nox.suite a ((a, oe) :: pn)) (by show X.K.lookup _ = _; rw [hK]; exact lkE) (by show PySem.W.codeIn X.K _ _ = _; rw [hK]; exact hcdE) SE' ⟨hroomE.dp, hroomE.un⟩ hot List.mem_cons_self (by show L2.Binds X.K _ _ _; rw [hK]; exact bindE) I3 pt.nox (ht Q2 H2 hq2)
    exact (L2.pss_one (L2.ps_ret hcall)).run pins s1 _ H1 D I ⟨h1, hq⟩
  refine ⟨_, L2.pss_cons (L2N.ps_try_as (X := (L2.cxOf C8.CX0 X.prog X.w X.K X.mg X.base (["call", "e"] : List Str) "_law_refused" sR fR cdR X.A X.stack s H C8.E0).nox) (i := 1) (c := .ref SEa) (Wout := fun _ _ _ _ => False)
      (tb := fun W D σ H => ∃ Ech : XK, (∀ cls d σ' H', Ech cls d H' → W cls d σ' H') ∧ σ[0]? = some (some (.ref f)) ∧ H c' = some (LamX.CodeO c' q) ∧ tl Ech H fun _ H1 => D.nx σ H1)
      rfl rfl SR.nd rfl hre ⟨hgl hrs, by decide, .inl (by show X.mg _ = _; rw [hmg]; exact F.se)⟩ takes0N (fun W pn xe tk _ => ?_) hsu) (L2.pss_one (L2.ps_ret L2.pe_str)), ?_⟩
  · refine ⟨fun pins s' σ H' D I h' => ?_⟩
    obtain ⟨Ech, hW, h1, h2, h3⟩ := h'
    have hp := act W pn xe Ech p1 p2 tk hW
    exact (L2.pss_one (L2.ps_expr (pos := p3) hp)).run pins s' σ H' D I ⟨h1, h2, h3⟩
  · refine ⟨EX g.G Q, fun cls d σ' H' ⟨c, er', hQ⟩ => ?_, rfl, hco, h⟩
    obtain ⟨rfl, x, a', e1, e2, rfl⟩ := er'
    obtain ⟨n1, n2, w, hw⟩ := F.er c x (hnm c x e1)
    have e3 : g.mg x = some (.ref a') := e2
    rw [F.cl c x w hw] at e3
    cases e3
    refine ⟨true, ?_, fun _ a _ => ⟨⟨σ', rfl⟩, c, rfl, rfl, ⟨n1, n2⟩, fun H'' g => hQ H'' g⟩, fun z => by cases z⟩
    show PySem.W.exmOne X.K _ _ = _
    rw [hK]
    exact F.ex c n1 n2
end Rf

/-! RZip: zip over two iterators of any kinds. -/
namespace Rf
open PySem
open PySem.Sem (wp)
/-- the next item of the iterator at i: what it needs, what it gives, what it leaves -/
structure Inner (prog : Program) (w : World) (i : Addr) (dp : List Addr) (st : Heap → Prop) (R : Value → Prop) (st' : Heap → Prop) : Prop where
  next : ∀ (A : Around) (E : Value → Shared → Prop) (s : Shared) (Q : Value → Shared → Prop), st s.heap → (∀ v h' tk, R v → st' h' → Heap.SameBut i s.heap h' → Q v { s with heap := h', toks := tk }) → wpAny (model prog w) A (Builtin.SmallTypes.nextOf (.ref i)) Q E s
  keep : ∀ h h', st h → (∀ c o, c = i ∨ c ∈ dp → h.get? c = some o → h'.get? c = some o) → st h'
  keep' : ∀ h h', st' h → (∀ o, h.get? i = some o → h'.get? i = some o) → st' h'
  lt : ∀ h, st' h → i < h.objs.size
/-- .. its end -/
structure InnerEnd (prog : Program) (w : World) (i : Addr) (dp : List Addr) (st : Heap → Prop) : Prop where
  done : ∀ (A : Around) (E : Value → Shared → Prop) (s : Shared) (Q : Value → Shared → Prop), A.handled = none → st s.heap → (∀ h' e, Heap.ExtBut i s.heap h' → (∃ o, h'.get? e = some o ∧ o.cls = .type "StopIteration") → E (.ref e) { s with heap := h' }) → wpAny (model prog w) A (Builtin.SmallTypes.nextOf (.ref i)) Q E s
  keep : ∀ h h', st h → (∀ c o, c = i ∨ c ∈ dp → h.get? c = some o → h'.get? c = some o) → st h'
structure Apart (z TI TO i1 i2 : Addr) : Prop where
  TIz : TI ≠ z
  TOz : TO ≠ z
  i1z : i1 ≠ z
  i2z : i2 ≠ z
  TITO : TI ≠ TO
  TIi1 : TI ≠ i1
  TIi2 : TI ≠ i2
  TOi1 : TO ≠ i1
  TOi2 : TO ≠ i2
  i12 : i1 ≠ i2
section
variable {prog : Program} {w : World} {A : Around} {E : Value → Shared → Prop} {s : Shared}
theorem zipG_item {z TI TO i1 i2 : Addr} {a b : Value} {d1 d2 : List Addr} {s1 s2 s1' s2' : Heap → Prop} {R1 R2 : Value → Prop} {Q : Value → Shared → Prop} (D : Apart z TI TO i1 i2) (J1 : Inner prog w i1 d1 s1 R1 s1') (J2 : Inner prog w i2 d2 s2 R2 s2')
    (a1 : ∀ c ∈ d1, c ≠ z ∧ c ≠ TO ∧ c ≠ i2) (a2 : ∀ c ∈ d2, c ≠ z ∧ c ≠ TO ∧ c ≠ i1)
    (hz : IsZip s.heap z TI TO .none) (hTI : IsPair s.heap TI (.ref i1) (.ref i2)) (hTO : IsPair s.heap TO a b) (h1 : s1 s.heap) (h2 : s2 s.heap)
    (hQ : ∀ x y h' tk, R1 x → R2 y → IsZip h' z TI TO (rawInt s.heap.objs.size) → IsPair h' TO x y → s1' h' → s2' h' → IsPair h' s.heap.objs.size x y → h'.objs.size = s.heap.objs.size + 1 →
      (∀ c o, c ≠ z → c ≠ TO → c ≠ i1 → c ≠ i2 → s.heap.get? c = some o → h'.get? c = some o) → Q (.ref s.heap.objs.size) { s with heap := h', toks := tk }) :
    wpAny (model prog w) A (Builtin.«zip.__next__» ⟨[.ref z], []⟩) (fun fin s' => ∃ v, fin = .done (.ret v) ∧ Q v s') E s := by
  show wpAny _ _ (field (.ref z) 2 >>= _) _ _ _
  refine wpAny_bind (wpAny_field hz rfl (x := .bool false) rfl ?_)
  show wpAny _ _ (field (.ref z) 3 >>= _) _ _ _
  refine wpAny_bind (wpAny_field hz rfl (x := .ref TI) rfl ?_)
  refine wpAny_bind (wpAny_seqItems hTI rfl ?_)
  show wpAny _ _ (Builtin.SmallTypes.ownedTupleIsFree (.ref z) >>= _) _ _ _
  refine wpAny_bind ?_
  unfold Builtin.SmallTypes.ownedTupleIsFree
  refine wpAny_bind (wpAny_field hz rfl (x := .none) rfl (wpAny_pure ?_))
  simp only [if_true]
  refine wpAny_bind (wpAny_rule ?_)
  refine wpAny_bind (wpAny_field hz rfl (x := .ref TO) rfl ?_)
  refine wpAny_bind (wpAny_setField_rec hz (by simp) fun h₁ hz₁ hs₁ => ?_)
  replace hz₁ : IsZip h₁ z TI TO .ellipsis := hz₁
  refine wpAny_bind ?_
  simp only [List.zipIdx_cons, List.zipIdx_nil, List.forIn_cons, List.forIn_nil]
  refine wpAny_bind (wpAny_bind (wpAny_onRaise ?_))
  show wpAny _ _ (Builtin.SmallTypes.nextOf (.ref i1) >>= _) _ _ _
  have k1 : s1 h₁ := J1.keep _ _ h1 fun c o hc e => hs₁.extBut _ _ (hc.elim (fun q => q ▸ D.i1z) fun q => (a1 c q).1) e
  have k2 : s2 h₁ := J2.keep _ _ h2 fun c o hc e => hs₁.extBut _ _ (hc.elim (fun q => q ▸ D.i2z) fun q => (a2 c q).1) e
  refine wpAny_bind (J1.next _ _ _ _ k1 fun x h₂ tk₂ rx h1₂ hs₂ => wpAny_pure ?_)
  have hTO₂ : IsPair h₂ TO a b := hs₂.extBut _ _ D.TOi1 (hs₁.extBut _ _ D.TOz hTO)
  refine wpAny_bind (wpAny_seqItems hTO₂ rfl ?_)
  refine wpAny_bind (wpAny_updateSeq_pair hTO₂ fun h₃ hTO₃ hs₃ => ?_)
  replace hTO₃ : IsPair h₃ TO x b := hTO₃
  refine wpAny_bind (wpAny_letGo (wpAny_pure ?_))
  refine wpAny_bind (wpAny_bind (wpAny_onRaise ?_))
  show wpAny _ _ (Builtin.SmallTypes.nextOf (.ref i2) >>= _) _ _ _
  have k2' : s2 h₃ := J2.keep _ _ k2 fun c o hc e => hs₃.extBut _ _ (hc.elim (fun q => q ▸ D.TOi2.symm) fun q => (a2 c q).2.1) (hs₂.extBut _ _ (hc.elim (fun q => q ▸ D.i12.symm) fun q => (a2 c q).2.2) e)
  refine wpAny_bind (J2.next _ _ _ _ k2' fun y h₄ tk₄ ry h2₄ hs₄ => wpAny_pure ?_)
  have hTO₄ : IsPair h₄ TO x b := hs₄.extBut _ _ D.TOi2 hTO₃
  refine wpAny_bind (wpAny_seqItems hTO₄ rfl ?_)
  refine wpAny_bind (wpAny_updateSeq_pair hTO₄ fun h₅ hTO₅ hs₅ => ?_)
  replace hTO₅ : IsPair h₅ TO x y := hTO₅
  refine wpAny_bind (wpAny_letGo (wpAny_pure (wpAny_pure ?_)))
  refine wpAny_bind (wpAny_seqItems hTO₅ rfl ?_)
  refine wpAny_bind (wpAny_newTuple ?_)
  have hsz : h₅.objs.size = s.heap.objs.size := by rw [hs₅.1, hs₄.1, hs₃.1, hs₂.1, hs₁.1]
  have hz₅ : IsZip h₅ z TI TO .ellipsis := hs₅.extBut _ _ D.TOz.symm (hs₄.extBut _ _ D.i2z.symm (hs₃.extBut _ _ D.TOz.symm (hs₂.extBut _ _ D.i1z.symm hz₁)))
  have hk₅ : ∀ c o, c ≠ z → c ≠ TO → c ≠ i1 → c ≠ i2 → s.heap.get? c = some o → h₅.get? c = some o := fun c o c1 c2 c3 c4 e =>
    hs₅.extBut _ _ c2 (hs₄.extBut _ _ c4 (hs₃.extBut _ _ c2 (hs₂.extBut _ _ c3 (hs₁.extBut _ _ c1 e))))
  have h1₅ : s1' h₅ := J1.keep' _ _ h1₂ fun o e => hs₅.extBut _ _ D.TOi1.symm (hs₄.extBut _ _ D.i12 (hs₃.extBut _ _ D.TOi1.symm e))
  have h2₅ : s2' h₅ := J2.keep' _ _ h2₄ fun o e => hs₅.extBut _ _ D.TOi2.symm e
  have hzlt : z < h₅.objs.size := Heap.lt_size hz₅
  have hTOlt : TO < h₅.objs.size := Heap.lt_size hTO₅
  show wpAny _ _ (Builtin.SmallTypes.ownedTupleHandOut (.ref z) (.ref h₅.objs.size) >>= _) _ _ _
  refine wpAny_bind ?_
  unfold Builtin.SmallTypes.ownedTupleHandOut
  have hz₆ : IsZip (h₅.push { cls := .type "tuple", data := .seq #[x, y] }) z TI TO .ellipsis := Heap.get?_push_of_some _ hz₅
  refine wpAny_bind (wpAny_setField_rec hz₆ (by simp) fun h₇ hz₇ hs₇ => ?_)
  replace hz₇ : IsZip h₇ z TI TO (rawInt h₅.objs.size) := hz₇
  refine wpAny_setField_rec hz₇ (by simp) fun h₈ hz₈ hs₈ => ?_
  replace hz₈ : IsZip h₈ z TI TO (rawInt h₅.objs.size) := hz₈
  have up : ∀ c o, c ≠ z → h₅.get? c = some o → h₈.get? c = some o := fun c o c1 e => hs₈.extBut _ _ c1 (hs₇.extBut _ _ c1 (Heap.get?_push_of_some _ e))
  have hT₈ : IsPair h₈ h₅.objs.size x y := hs₈.extBut _ _ (Nat.ne_of_gt hzlt) (hs₇.extBut _ _ (Nat.ne_of_gt hzlt) (Heap.get?_push_size _ rfl))
  have hz8 : h₈.objs.size = h₅.objs.size + 1 := by rw [hs₈.1, hs₇.1, Heap.size_push]
  rw [hsz] at hz₈ hT₈ hz8
  refine wpAny_pure ⟨_, rfl, ?_⟩
  show Q (.ref h₅.objs.size) _
  rw [hsz]
  exact hQ x y h₈ _ rx ry hz₈ (up _ _ D.TOz hTO₅) (J1.keep' _ _ h1₅ fun o e => up _ o D.i1z e) (J2.keep' _ _ h2₅ fun o e => up _ o D.i2z e) hT₈ hz8 fun c o c1 c2 c3 c4 e => up c o c1 (hk₅ c o c1 c2 c3 c4 e)
end
end Rf

/-! RZip2: zip over two sources, the end, the turn, the making. -/
namespace Rf
open PySem
open PySem.Sem (wp)
section
variable {prog : Program} {w : World} {A : Around} {E : Value → Shared → Prop} {s : Shared}
theorem zipG_end {z TI TO i1 i2 : Addr} {a b : Value} {d1 d2 : List Addr} {s1 s2 s1' : Heap → Prop} {R1 : Value → Prop} {Q : Fin → Shared → Prop} (hh : A.handled = none) (D : Apart z TI TO i1 i2)
    (a1 : ∀ c ∈ d1, c ≠ z ∧ c ≠ TO ∧ c ≠ i2) (a2 : ∀ c ∈ d2, c ≠ z ∧ c ≠ TO ∧ c ≠ i1)
    (hz : IsZip s.heap z TI TO .none) (hTI : IsPair s.heap TI (.ref i1) (.ref i2)) (hTO : IsPair s.heap TO a b) (h1 : s1 s.heap)
    (hend : InnerEnd prog w i1 d1 s1 ∨ (Inner prog w i1 d1 s1 R1 s1' ∧ InnerEnd prog w i2 d2 s2 ∧ s2 s.heap))
    (hE : ∀ h' e, (∀ c o, c ≠ z → c ≠ TO → c ≠ i1 → c ≠ i2 → s.heap.get? c = some o → h'.get? c = some o) → (∃ o, h'.get? e = some o ∧ o.cls = .type "StopIteration") → ∀ tk, E (.ref e) { s with heap := h', toks := tk }) :
    wpAny (model prog w) A (Builtin.«zip.__next__» ⟨[.ref z], []⟩) Q E s := by
  show wpAny _ _ (field (.ref z) 2 >>= _) _ _ _
  refine wpAny_bind (wpAny_field hz rfl (x := .bool false) rfl ?_)
  show wpAny _ _ (field (.ref z) 3 >>= _) _ _ _
  refine wpAny_bind (wpAny_field hz rfl (x := .ref TI) rfl ?_)
  refine wpAny_bind (wpAny_seqItems hTI rfl ?_)
  show wpAny _ _ (Builtin.SmallTypes.ownedTupleIsFree (.ref z) >>= _) _ _ _
  refine wpAny_bind ?_
  unfold Builtin.SmallTypes.ownedTupleIsFree
  refine wpAny_bind (wpAny_field hz rfl (x := .none) rfl (wpAny_pure ?_))
  simp only [if_true]
  refine wpAny_bind (wpAny_rule ?_)
  refine wpAny_bind (wpAny_field hz rfl (x := .ref TO) rfl ?_)
  refine wpAny_bind (wpAny_setField_rec hz (by simp) fun h₁ hz₁ hs₁ => ?_)
  replace hz₁ : IsZip h₁ z TI TO .ellipsis := hz₁
  refine wpAny_bind ?_
  simp only [List.zipIdx_cons, List.zipIdx_nil, List.forIn_cons, List.forIn_nil]
  refine wpAny_bind (wpAny_bind (wpAny_onRaise ?_))
  show wpAny _ _ (Builtin.SmallTypes.nextOf (.ref i1) >>= _) _ _ _
  rcases hend with J1 | ⟨J1, J2, h2⟩
  · have k1 : s1 h₁ := J1.keep _ _ h1 fun c o hc e => hs₁.extBut _ _ (hc.elim (fun q => q ▸ D.i1z) fun q => (a1 c q).1) e
    refine wpAny_bind (J1.done _ _ _ _ hh k1 fun h₂ e hs₂ he => ?_)
    obtain ⟨oe, hoe, hce⟩ := he
    have hz₂ : IsZip h₂ z TI TO .ellipsis := hs₂ _ _ D.i1z.symm hz₁
    have hez : e ≠ z := fun x => by subst x; rw [hz₂] at hoe; cases hoe; simp at hce
    refine wpAny_setField_rec hz₂ (by simp) fun h₃ _ hs₃ => hE h₃ e (fun c o c1 _ c3 _ x => hs₃.extBut _ _ c1 (hs₂ _ _ c3 (hs₁.extBut _ _ c1 x))) ⟨oe, hs₃.extBut _ _ hez hoe, hce⟩ _
  · have k1 : s1 h₁ := J1.keep _ _ h1 fun c o hc e => hs₁.extBut _ _ (hc.elim (fun q => q ▸ D.i1z) fun q => (a1 c q).1) e
    have k2 : s2 h₁ := J2.keep _ _ h2 fun c o hc e => hs₁.extBut _ _ (hc.elim (fun q => q ▸ D.i2z) fun q => (a2 c q).1) e
    refine wpAny_bind (J1.next _ _ _ _ k1 fun x h₂ tk₂ rx h1₂ hs₂ => wpAny_pure ?_)
    have hTO₂ : IsPair h₂ TO a b := hs₂.extBut _ _ D.TOi1 (hs₁.extBut _ _ D.TOz hTO)
    refine wpAny_bind (wpAny_seqItems hTO₂ rfl ?_)
    refine wpAny_bind (wpAny_updateSeq_pair hTO₂ fun h₃ hTO₃ hs₃ => ?_)
    refine wpAny_bind (wpAny_letGo (wpAny_pure ?_))
    refine wpAny_bind (wpAny_bind (wpAny_onRaise ?_))
    show wpAny _ _ (Builtin.SmallTypes.nextOf (.ref i2) >>= _) _ _ _
    have k2' : s2 h₃ := J2.keep _ _ k2 fun c o hc e => hs₃.extBut _ _ (hc.elim (fun q => q ▸ D.TOi2.symm) fun q => (a2 c q).2.1) (hs₂.extBut _ _ (hc.elim (fun q => q ▸ D.i12.symm) fun q => (a2 c q).2.2) e)
    refine wpAny_bind (J2.done _ _ _ _ hh k2' fun h₄ e hs₄ he => ?_)
    obtain ⟨oe, hoe, hce⟩ := he
    have hz₄ : IsZip h₄ z TI TO .ellipsis := hs₄ _ _ D.i2z.symm (hs₃.extBut _ _ D.TOz.symm (hs₂.extBut _ _ D.i1z.symm hz₁))
    have hez : e ≠ z := fun x => by subst x; rw [hz₄] at hoe; cases hoe; simp at hce
    refine wpAny_setField_rec hz₄ (by simp) fun h₅ _ hs₅ => hE h₅ e (fun c o c1 c2 c3 c4 x => hs₅.extBut _ _ c1 (hs₄ _ _ c4 (hs₃.extBut _ _ c2 (hs₂.extBut _ _ c3 (hs₁.extBut _ _ c1 x))))) ⟨oe, hs₅.extBut _ _ hez hoe, hce⟩ _
theorem pyNext_zipG_item {z TI TO i1 i2 : Addr} {a b : Value} {d1 d2 : List Addr} {s1 s2 s1' s2' : Heap → Prop} {R1 R2 : Value → Prop} {Q : Option Value → Shared → Prop} (D : Apart z TI TO i1 i2) (J1 : Inner prog w i1 d1 s1 R1 s1') (J2 : Inner prog w i2 d2 s2 R2 s2')
    (a1 : ∀ c ∈ d1, c ≠ z ∧ c ≠ TO ∧ c ≠ i2) (a2 : ∀ c ∈ d2, c ≠ z ∧ c ≠ TO ∧ c ≠ i1)
    (hz : IsZip s.heap z TI TO .none) (hTI : IsPair s.heap TI (.ref i1) (.ref i2)) (hTO : IsPair s.heap TO a b) (h1 : s1 s.heap) (h2 : s2 s.heap)
    (hQ : ∀ x y h' tk, R1 x → R2 y → IsZip h' z TI TO (rawInt s.heap.objs.size) → IsPair h' TO x y → s1' h' → s2' h' → IsPair h' s.heap.objs.size x y → h'.objs.size = s.heap.objs.size + 1 →
      (∀ c o, c ≠ z → c ≠ TO → c ≠ i1 → c ≠ i2 → s.heap.get? c = some o → h'.get? c = some o) → Q (some (.ref s.heap.objs.size)) { s with heap := h', toks := tk }) :
    wpAny (model prog w) A (pyNext (.ref z)) Q E s := by
  have hT : s.TypeIs (.ref z) "zip" := ⟨_, hz, rfl⟩
  unfold pyNext
  exact wpAny_bind (wpAny_attempt (wpAny_callSpecial?_slot (name := Str.ofString "__next__") hT F.slot_zip_next
    (wpAny_call_entry F.slot_zip_next hT F.entry_zip_next
      (zipG_item (Q := fun v s' => wpAny (model prog w) _ (pure (some v)) Q E s') D J1 J2 a1 a2 hz hTI hTO h1 h2 fun x y h' tk rx ry b1 b2 b3 b4 b5 b6 b7 => wpAny_pure (hQ x y h' tk rx ry b1 b2 b3 b4 b5 b6 b7)) (F.args_zip_next_1 _))))
theorem pyNext_zipG_end {z TI TO i1 i2 : Addr} {a b : Value} {d1 d2 : List Addr} {s1 s2 s1' : Heap → Prop} {R1 : Value → Prop} {Q : Option Value → Shared → Prop} (hh : A.handled = none) (D : Apart z TI TO i1 i2)
    (a1 : ∀ c ∈ d1, c ≠ z ∧ c ≠ TO ∧ c ≠ i2) (a2 : ∀ c ∈ d2, c ≠ z ∧ c ≠ TO ∧ c ≠ i1)
    (hz : IsZip s.heap z TI TO .none) (hTI : IsPair s.heap TI (.ref i1) (.ref i2)) (hTO : IsPair s.heap TO a b) (h1 : s1 s.heap)
    (hend : InnerEnd prog w i1 d1 s1 ∨ (Inner prog w i1 d1 s1 R1 s1' ∧ InnerEnd prog w i2 d2 s2 ∧ s2 s.heap))
    (hQ : ∀ h' tk, (∀ c o, c ≠ z → c ≠ TO → c ≠ i1 → c ≠ i2 → s.heap.get? c = some o → h'.get? c = some o) → Q none { s with heap := h', toks := tk }) : wpAny (model prog w) A (pyNext (.ref z)) Q E s := by
  have hT : s.TypeIs (.ref z) "zip" := ⟨_, hz, rfl⟩
  unfold pyNext
  refine wpAny_bind (wpAny_attempt (wpAny_callSpecial?_slot (name := Str.ofString "__next__") hT F.slot_zip_next
    (wpAny_call_entry F.slot_zip_next hT F.entry_zip_next (zipG_end hh D a1 a2 hz hTI hTO h1 hend fun h' e hk he tk => ?_) (F.args_zip_next_1 _))))
  obtain ⟨o, ho, hc⟩ := he
  refine wpAny_bind (wpAny_isInstance (T := "StopIteration") (b := true) ⟨o, ho, hc⟩ isSubtype_stop ?_)
  exact wpAny_pure (hQ _ _ hk)
/-! ### the three sources -/
theorem nextOf_range_item {it : Addr} {x left step : Int} {Q : Value → Shared → Prop} (hit : IsRangeIter s.heap it x left step) (hleft : 0 < left)
    (hQ : ∀ h', IsRangeIter h' it (x + step) (left - 1) step → Heap.SameBut it s.heap h' → Q (.int x s.toks) { s with heap := h', toks := s.toks + 1 }) :
    wpAny (model prog w) A (Builtin.SmallTypes.nextOf (.ref it)) Q E s := by
  have hT : s.TypeIs (.ref it) "range_iterator" := ⟨_, hit, rfl⟩
  unfold Builtin.SmallTypes.nextOf
  refine wpAny_bind (wpAny_callSpecial?_slot (name := Str.ofString "__next__") hT F.slot_range_iterator_next
    (call_meets F.slot_range_iterator_next hT F.entry_range_iterator_next (F.args_range_iterator_next_1 _) (AutoRange.range_iterator___next___range_iterator_1 it x left step (by omega)) ⟨hit, ?_⟩))
  exact wpAny_pure (hQ _ (Heap.get?_update_self _ (Heap.get?_update_self _ hit rfl) rfl) ((Heap.SameBut.update ..).trans (Heap.SameBut.update ..)))
end
end Rf

/-! RZip3: the sources of a zip, its turn. -/
namespace Rf
open PySem
open PySem.Sem (wp)
open L2 (V Hp HO SqL SqT Rd upd upd_same upd_ne Cx It Inv Turn FpOk RelV ObjOk)
section
variable {prog : Program} {w : World} {A : Around} {E : Value → Shared → Prop} {s : Shared}
theorem nextOf_range_end {it : Addr} {x left step : Int} {Q : Value → Shared → Prop} (hh : A.handled = none) (hit : IsRangeIter s.heap it x left step) (hleft : left ≤ 0)
    (hE : ∀ h' e, Heap.ExtBut it s.heap h' → (∃ o, h'.get? e = some o ∧ o.cls = .type "StopIteration") → E (.ref e) { s with heap := h' }) : wpAny (model prog w) A (Builtin.SmallTypes.nextOf (.ref it)) Q E s := by
  have hT : s.TypeIs (.ref it) "range_iterator" := ⟨_, hit, rfl⟩
  unfold Builtin.SmallTypes.nextOf
  refine wpAny_bind (wpAny_callSpecial?_slot (name := Str.ofString "__next__") hT F.slot_range_iterator_next
    (wpAny_call_entry F.slot_range_iterator_next hT F.entry_range_iterator_next ?_ (F.args_range_iterator_next_1 _)))
  show wpAny _ _ (field (.ref it) 0 >>= _) _ _ s
  refine wpAny_bind (wpAny_field hit rfl (x := rawInt x) rfl ?_)
  show wpAny _ _ (field (.ref it) 1 >>= _) _ _ s
  refine wpAny_bind (wpAny_field hit rfl (x := rawInt left) rfl ?_)
  show wpAny _ _ (field (.ref it) 2 >>= _) _ _ s
  refine wpAny_bind (wpAny_field hit rfl (x := rawInt step) rfl ?_)
  show wpAny _ _ (if left ≤ 0 then _ else _) _ _ s
  rw [if_pos hleft]
  refine wpAny_bind (wpAny_rule ?_)
  refine wpAny_bind ?_
  show wpAny _ _ (newExc (.type "StopIteration") [] >>= _) _ _ _
  refine wpAny_bind ?_
  simp only [newExc, newTuple]
  refine wpAny_bind (wpAny_newObj_type ?_ (by size_fits))
  refine wpAny_bind (m := firstArgMember _ _) (wpAny_of_eq (a := Value.none) (by first | rfl | (simp only [firstArgMember]; rfl)) ?_)
  refine wpAny_newObj_type ?_ (by size_fits)
  simp only [raiseNew]
  refine wpAny_bind (wpAny_handled ?_)
  first | rw [show A.in1.handled = none from hh] | rw [hh]
  refine wpAny_bind (wpAny_pure (wpAny_throw ?_))
  exact hE _ _ (((Heap.ExtBut.refl it s.heap).push _).push _) ⟨_, Heap.get?_push_size _ rfl, rfl⟩
end
/-- a source of a zip: may it go on, what it gives, is it at its end -/
structure Sr where
  go : Nat → Hp → Prop
  val : Nat → Hp → V → Prop
  stop : Nat → Hp → Prop
def srL (K : PySem.W.Frag) (a : Addr) : Sr := ⟨fun i H => ∃ (xs : List V) (x : V), SqL K H a xs ∧ xs[i]? = some x, fun i H x => ∀ xs, SqL K H a xs → xs[i]? = some x, fun i H => ∃ xs : List V, SqL K H a xs ∧ xs.length ≤ i⟩
def srT (K : PySem.W.Frag) (a : Addr) : Sr := ⟨fun i H => ∃ (xs : List V) (x : V), SqT K H a xs ∧ xs[i]? = some x, fun i H x => ∀ xs, SqT K H a xs → xs[i]? = some x, fun i H => ∃ xs : List V, SqT K H a xs ∧ xs.length ≤ i⟩
def srR (lo c : Int) (n : Nat) : Sr := ⟨fun i _ => i < n, fun i _ x => x = .int (lo + (i : Nat) * c), fun i _ => n ≤ i⟩
/-- an iterator of the machine that walks a source -/
structure IK (P : Program) (w : World) (K : PySem.W.Frag) (it : Addr) (dp : List Addr) (S : Sr) (St : Nat → Heap → Prop) : Prop where
  item : ∀ (X : Cx), X.prog = P → X.w = w → X.K = K → ∀ (i : Nat) (pins : List (Addr × Obj)) (s : Shared) (σ : L2.St) (H : Hp), Inv X pins σ H s → St i s.heap → S.go i H →
    ∃ (st : Heap → Prop) (R : Value → Prop), Inner P w it dp st R (St (i + 1)) ∧ st s.heap ∧ ∀ u, R u → ∃ x, S.val i H x ∧ RelV x u
  done : ∀ (X : Cx), X.prog = P → X.w = w → X.K = K → ∀ (i : Nat) (pins : List (Addr × Obj)) (s : Shared) (σ : L2.St) (H : Hp), Inv X pins σ H s → St i s.heap → S.stop i H → ∃ (st : Heap → Prop), InnerEnd P w it dp st ∧ st s.heap
  keep : ∀ i h h', St i h → (∀ o, h.get? it = some o → h'.get? it = some o) → St i h'
  obj : ∀ i h, St i h → ∃ o, h.get? it = some o ∧ ∀ v, o.data ≠ .cell v
section
variable {P : Program} {w : World} {K : PySem.W.Frag}
theorem ik_list {it a : Addr} (hne : a ≠ it) : IK P w K it [a] (srL K a) (fun i h => h.IsListIter it a i) where
  item := by
    intro X hP hw hK i pins s σ H I st hg
    subst hP hw hK
    obtain ⟨xs, x, hq, hx⟩ := hg
    obtain ⟨its, rv, p, hz⟩ := I.list hq
    obtain ⟨u, hu, ru⟩ := rv.get hx
    refine ⟨fun h => h.IsListIter it a i ∧ h.IsList a its.toArray, fun v => v = u, ⟨?_, ?_, ?_, ?_⟩, ⟨st, p.isList⟩, fun v e => ⟨x, fun ys hy => by rw [I.list_inj hy hq]; exact hx, e ▸ ru⟩⟩
    · intro A E s Q h k
      exact wpAny_nextOf_list_item h.1 h.2 (x := u) (by simpa using hu) fun h' b1 b2 => k u h' s.toks rfl b1 b2
    · intro h h' q k
      exact ⟨q.1.at fun o e => k it o (.inl rfl) e, q.2.at fun o e => k a o (.inr (by simp)) e⟩
    · intro h h' q k
      exact q.at fun o e => k o e
    · intro h q
      obtain ⟨_, e, _⟩ := q
      exact Heap.lt_size e
  done := by
    intro X hP hw hK i pins s σ H I st hg
    subst hP hw hK
    obtain ⟨xs, hq, hx⟩ := hg
    obtain ⟨its, rv, p, hz⟩ := I.list hq
    have l1 := rv.length
    refine ⟨fun h => h.IsListIter it a i ∧ h.IsList a its.toArray, ⟨?_, ?_⟩, ⟨st, p.isList⟩⟩
    · intro A E s Q hh h k
      exact wpAny_nextOf_list_end hh h.1 h.2 (by simp; omega) k
    · intro h h' q k
      exact ⟨q.1.at fun o e => k it o (.inl rfl) e, q.2.at fun o e => k a o (.inr (by simp)) e⟩
  keep := fun i h h' q k => q.at k
  obj := fun i h q => by
    obtain ⟨o1, e1, _, d1⟩ := q
    exact ⟨o1, e1, fun v q => by rw [d1] at q; cases q⟩
theorem ik_tuple {it a : Addr} (hne : a ≠ it) : IK P w K it [a] (srT K a) (fun i h => h.IsTupleIter it a i) where
  item := by
    intro X hP hw hK i pins s σ H I st hg
    subst hP hw hK
    obtain ⟨xs, x, hq, hx⟩ := hg
    obtain ⟨its, rv, p, hz⟩ := I.tuple hq
    obtain ⟨u, hu, ru⟩ := rv.get hx
    refine ⟨fun h => h.IsTupleIter it a i ∧ h.IsTuple a its.toArray, fun v => v = u, ⟨?_, ?_, ?_, ?_⟩, ⟨st, p⟩, fun v e => ⟨x, fun ys hy => by rw [I.tuple_inj hy hq]; exact hx, e ▸ ru⟩⟩
    · intro A E s Q h k
      exact RZ.nextOf_tuple_item h.1 h.2 (x := u) (by simpa using hu) fun h' b1 b2 => k u h' s.toks rfl b1 b2
    · intro h h' q k
      exact ⟨q.1.at fun o e => k it o (.inl rfl) e, q.2.at fun o e => k a o (.inr (by simp)) e⟩
    · intro h h' q k
      exact q.at fun o e => k o e
    · intro h q
      obtain ⟨_, e, _⟩ := q
      exact Heap.lt_size e
  done := by
    intro X hP hw hK i pins s σ H I st hg
    subst hP hw hK
    obtain ⟨xs, hq, hx⟩ := hg
    obtain ⟨its, rv, p, hz⟩ := I.tuple hq
    have l1 := rv.length
    refine ⟨fun h => h.IsTupleIter it a i ∧ h.IsTuple a its.toArray, ⟨?_, ?_⟩, ⟨st, p⟩⟩
    · intro A E s Q hh h k
      exact RZ.nextOf_tuple_end hh h.1 h.2 (by simp; omega) k
    · intro h h' q k
      exact ⟨q.1.at fun o e => k it o (.inl rfl) e, q.2.at fun o e => k a o (.inr (by simp)) e⟩
  keep := fun i h h' q k => q.at k
  obj := fun i h q => by
    obtain ⟨o1, e1, _, d1⟩ := q
    exact ⟨o1, e1, fun v q => by rw [d1] at q; cases q⟩
theorem ik_range {it : Addr} {lo c : Int} {n : Nat} : IK P w K it [] (srR lo c n) (fun i h => IsRangeIter h it (lo + (i : Nat) * c) ((n : Int) - (i : Nat)) c) where
  item := by
    intro X hP hw hK i pins s σ H I st hg
    refine ⟨fun h => IsRangeIter h it (lo + (i : Nat) * c) ((n : Int) - (i : Nat)) c, fun v => ∃ t, v = .int (lo + (i : Nat) * c) t, ⟨?_, ?_, ?_, ?_⟩, st, fun v ⟨t, e⟩ => ⟨_, rfl, t, e⟩⟩
    · intro A E s Q h k
      have hg' : i < n := hg
      refine nextOf_range_item h (by omega) fun h' b1 b2 => k _ h' _ ⟨_, rfl⟩ ?_ b2
      have e1 : lo + ((i + 1 : Nat) : Int) * c = lo + (i : Int) * c + c := by push_cast; rw [Int.add_mul, Int.one_mul, Int.add_assoc]
      have e2 : (n : Int) - ((i + 1 : Nat) : Int) = (n : Int) - (i : Int) - 1 := by push_cast; omega
      show IsRangeIter _ _ (lo + ((i + 1 : Nat) : Int) * c) ((n : Int) - ((i + 1 : Nat) : Int)) c
      rw [e1, e2]; exact b1
    · intro h h' q k
      exact k it _ (.inl rfl) q
    · intro h h' q k
      exact k _ q
    · intro h q
      exact Heap.lt_size q
  done := by
    intro X hP hw hK i pins s σ H I st hg
    refine ⟨fun h => IsRangeIter h it (lo + (i : Nat) * c) ((n : Int) - (i : Nat)) c, ⟨?_, ?_⟩, st⟩
    · intro A E s Q hh h k
      have hg' : n ≤ i := hg
      exact nextOf_range_end hh h (by omega) k
    · intro h h' q k
      exact k it _ (.inl rfl) q
  keep := fun i h h' q k => k _ q
  obj := fun i h q => ⟨_, q, fun v z => nomatch z⟩
/-- what a zip of two sources walks -/
def ItG (S1 S2 : Sr) : It :=
  ⟨fun i H => S1.go i H ∧ S2.go i H, fun i H v H' => ∃ T x y, v = .ref T ∧ H T = none ∧ H' = upd H T (.tup [x, y]) ∧ S1.val i H x ∧ S2.val i H y, fun i H => S1.stop i H ∨ (S1.go i H ∧ S2.stop i H)⟩
theorem turn_zipG {elts : List Expr} {kk : Nat} {tpos : Pos} {z TI TO i1 i2 : Addr} {d1 d2 : List Addr} {S1 S2 : Sr} {St1 St2 : Nat → Heap → Prop} (D : Apart z TI TO i1 i2) (J1 : IK P w K i1 d1 S1 St1) (J2 : IK P w K i2 d2 S2 St2)
    (a1 : ∀ c ∈ d1, c ≠ z ∧ c ≠ TO ∧ c ≠ i2) (a2 : ∀ c ∈ d2, c ≠ z ∧ c ≠ TO ∧ c ≠ i1) :
    Turn P w K (.Tuple elts kk tpos) (ItG S1 S2) [z, TI, TO, i1, i2] z (fun i h => IsZip h z TI TO .none ∧ IsPair h TI (.ref i1) (.ref i2) ∧ (∃ x y, IsPair h TO x y) ∧ St1 i h ∧ St2 i h) where
  mem := by simp
  obj := fun i h st c hc => by
    obtain ⟨hz, hTI, ⟨x, y, hTO⟩, h1, h2⟩ := st
    have e' : c = z ∨ c = TI ∨ c = TO ∨ c = i1 ∨ c = i2 := by simpa using hc
    rcases e' with q | q | q | q | q
    · rw [q]; exact ⟨_, hz, fun v q => nomatch q⟩
    · rw [q]; exact ⟨_, hTI, fun v q => nomatch q⟩
    · rw [q]; exact ⟨_, hTO, fun v q => nomatch q⟩
    · rw [q]; exact J1.obj i h h1
    · rw [q]; exact J2.obj i h h2
  keep := fun i h h' st k => by
    obtain ⟨hz, hTI, ⟨x, y, hTO⟩, h1, h2⟩ := st
    exact ⟨k z (by simp) _ hz, k TI (by simp) _ hTI, ⟨x, y, k TO (by simp) _ hTO⟩, J1.keep _ _ _ h1 fun o q => k i1 (by simp) o q, J2.keep _ _ _ h2 fun o q => k i2 (by simp) o q⟩
  item := by
    intro X hP hw hK hc i pins s σ H E I hf st hg
    obtain ⟨hz, hTI, ⟨x0, y0, hTO⟩, h1, h2⟩ := st
    obtain ⟨st1, R1, N1, q1, r1⟩ := J1.item X hP hw hK i pins s σ H I h1 hg.1
    obtain ⟨st2, R2, N2, q2, r2⟩ := J2.item X hP hw hK i pins s σ H I h2 hg.2
    subst hP hw hK
    have hzl : z < s.heap.objs.size := Heap.lt_size hz
    refine pyNext_zipG_item D N1 N2 a1 a2 hz hTI hTO q1 q2 fun u u2 h' tk ru ru2 z' TO' h1' h2' hT hsz hk => ?_
    obtain ⟨x, vx, rx⟩ := r1 u ru
    obtain ⟨y, vy, ry⟩ := r2 u2 ru2
    refine ⟨_, rfl, wpAny_letOwnedTupleGo_zip (s := { s with heap := h', toks := tk }) z' fun h'' z'' sb => ?_⟩
    have hT2 : h''.get? s.heap.objs.size = some { cls := .type "tuple", data := .seq #[u, u2] } := (sb.2 _ (Nat.ne_of_gt hzl)).trans hT
    have new : ObjOk X.prog X.w (upd H s.heap.objs.size (.tup [x, y])) h'' s.heap.objs.size (.tup [x, y]) :=
      ⟨by show 2 ≤ sizeLine; decide, [u, u2], .cons rx (.cons ry .nil), ⟨_, hT2, rfl, _, rfl⟩⟩
    have I1 : Inv X pins σ (upd H s.heap.objs.size (.tup [x, y])) { s with heap := h'', toks := tk } :=
      I.turnedNew (t' := tk) (ch := [z, TI, TO, i1, i2]) (fun c o hb q => (sb.2 c (fun q' => hb (by simp [q']))).trans (hk c o (fun q' => hb (by simp [q'])) (fun q' => hb (by simp [q'])) (fun q' => hb (by simp [q'])) (fun q' => hb (by simp [q'])) q)) hf (Nat.le_refl _) new
    refine ⟨.ref s.heap.objs.size, _, I1, rfl, ⟨_, x, y, rfl, I.hok.fresh (Nat.le_refl _), rfl, vx, vy⟩, ⟨z'', ?_, ⟨u, u2, ?_⟩, ?_, ?_⟩, fun c hcm => ?_⟩
    · exact (sb.2 _ D.TIz).trans (hk _ _ D.TIz D.TITO D.TIi1 D.TIi2 hTI)
    · exact (sb.2 _ D.TOz).trans TO'
    · exact J1.keep _ _ _ h1' fun o q => (sb.2 _ D.i1z).trans q
    · exact J2.keep _ _ _ h2' fun o q => (sb.2 _ D.i2z).trans q
    · have hlt : c < s.heap.objs.size := by
        have e' : c = z ∨ c = TI ∨ c = TO ∨ c = i1 ∨ c = i2 := by simpa using hcm
        rcases e' with q | q | q | q | q
        · rw [q]; exact hzl
        · rw [q]; exact Heap.lt_size hTI
        · rw [q]; exact Heap.lt_size hTO
        · rw [q]; obtain ⟨_, e1, _⟩ := J1.obj _ _ h1; exact Heap.lt_size e1
        · rw [q]; obtain ⟨_, e2, _⟩ := J2.obj _ _ h2; exact Heap.lt_size e2
      rw [upd_ne (Nat.ne_of_lt hlt)]
      exact (hf c hcm).1
  done := by
    intro X hP hw hK hc i pins s σ H E I hf st hg
    obtain ⟨hz, hTI, ⟨x0, y0, hTO⟩, h1, h2⟩ := st
    rcases hg with hg | ⟨hg1, hg2⟩
    · obtain ⟨st1, N1, q1⟩ := J1.done X hP hw hK i pins s σ H I h1 hg
      subst hP hw hK
      refine pyNext_zipG_end (R1 := fun _ => True) (s1' := fun _ => True) (s2 := fun _ => True) (I.ok.hd hc) D a1 a2 hz hTI hTO q1 (.inl N1) fun h' tk hk => ⟨rfl, I.turnedL (t' := tk) (ch := [z, TI, TO, i1, i2]) (fun c o hb q =>
        hk c o (fun q' => hb (by simp [q'])) (fun q' => hb (by simp [q'])) (fun q' => hb (by simp [q'])) (fun q' => hb (by simp [q'])) q) hf⟩
    · obtain ⟨st1, R1, N1, q1, r1⟩ := J1.item X hP hw hK i pins s σ H I h1 hg1
      obtain ⟨st2, N2, q2⟩ := J2.done X hP hw hK i pins s σ H I h2 hg2
      subst hP hw hK
      refine pyNext_zipG_end (I.ok.hd hc) D a1 a2 hz hTI hTO q1 (.inr ⟨N1, N2, q2⟩) fun h' tk hk => ⟨rfl, I.turnedL (t' := tk) (ch := [z, TI, TO, i1, i2]) (fun c o hb q =>
        hk c o (fun q' => hb (by simp [q'])) (fun q' => hb (by simp [q'])) (fun q' => hb (by simp [q'])) (fun q' => hb (by simp [q'])) q) hf⟩
  self := fun A i s Q E st h => wpAny_pyIter_zip st.1 h
end
end Rf

/-! RZip4: the making of a zip. -/
namespace Rf
open PySem
open PySem.Sem (wp)
abbrev zgH1 (h : Heap) (o1 : Obj) : Heap := h.push o1
abbrev zgH2 (h : Heap) (o1 o2 : Obj) : Heap := (zgH1 h o1).push o2
abbrev zgH3 (h : Heap) (o1 o2 : Obj) : Heap := (zgH2 h o1 o2).push { cls := .type "tuple", data := .seq #[.ref h.objs.size, .ref (zgH1 h o1).objs.size] }
abbrev zgH4 (h : Heap) (o1 o2 : Obj) : Heap := (zgH3 h o1 o2).push { cls := .type "tuple", data := .seq #[.none, .none] }
abbrev zgH5 (h : Heap) (o1 o2 : Obj) : Heap := (zgH4 h o1 o2).push { cls := .type "zip", data := .fields #[.none, .bool false, .bool false, .ref (zgH2 h o1 o2).objs.size, .ref (zgH3 h o1 o2).objs.size] }
/-- iter(l) pushes o, where c holds -/
def Itr1 (l : Addr) (o : Obj) (c : Heap → Prop) : Prop := ∀ (prog : Program) (w : World) (A : Around) (E : Value → Shared → Prop) (s : Shared) (Q : Value → Shared → Prop), c s.heap → Q (.ref s.heap.objs.size) { s with heap := s.heap.push o } → wpAny (model prog w) A (pyIter (.ref l)) Q E s
theorem meets_zipG_new (l1 l2 : Addr) {o1 o2 : Obj} {c1 c2 : Heap → Prop} (r1 : Itr1 l1 o1 c1) (r2 : Itr1 l2 o2 c2) (k2 : ∀ h o, c2 h → c2 (h.push o)) :
    Meets (Builtin.«zip.__new__» ⟨[.type "zip", .ref l1, .ref l2], []⟩) (fun _ R s => c1 s.heap ∧ c2 s.heap ∧
      R (.ok (.ret (.ref (zgH4 s.heap o1 o2).objs.size))) { s with heap := zgH5 s.heap o1 o2 }) :=
  .of_wp fun prog w A R s h => by
    obtain ⟨hp, g, d, tk, os⟩ := s; obtain ⟨hl1, hl2, h⟩ := h
    have hsub := sub_zip
    have t1 : ∀ (A : Around) (E : Value → Shared → Prop) (Q : Value → Shared → Prop), Q (.ref hp.objs.size) ⟨hp.push o1, g, d, tk, os⟩ → wpAny (model prog w) A (pyIter (.ref l1)) Q E ⟨hp, g, d, tk, os⟩ := fun A E Q q => r1 prog w A E _ Q hl1 q
    have t2 : ∀ (A : Around) (E : Value → Shared → Prop) (Q : Value → Shared → Prop), Q (.ref (hp.push o1).objs.size) ⟨(hp.push o1).push o2, g, d, tk, os⟩ → wpAny (model prog w) A (pyIter (.ref l2)) Q E ⟨hp.push o1, g, d, tk, os⟩ := fun A E Q q => r2 prog w A E _ Q (k2 _ _ hl2) q
    wp_walk using t1 _ _ _, t2 _ _ _
    exact ⟨_, rfl, h⟩
section
variable {prog : Program} {w : World} {A : Around} {E : Value → Shared → Prop} {s : Shared}
theorem call_zipG {l1 l2 : Addr} {o1 o2 : Obj} {c1 c2 : Heap → Prop} (r1 : Itr1 l1 o1 c1) (r2 : Itr1 l2 o2 c2) (k2 : ∀ h o, c2 h → c2 (h.push o)) (f1 : o1.isFreed = false) (f2 : o2.isFreed = false) {Q : Value → Shared → Prop} (hl1 : c1 s.heap) (hl2 : c2 s.heap)
    (h : ∀ h', IsZip h' (s.heap.objs.size + 4) (s.heap.objs.size + 2) (s.heap.objs.size + 3) .none → IsPair h' (s.heap.objs.size + 2) (.ref s.heap.objs.size) (.ref (s.heap.objs.size + 1)) →
      IsPair h' (s.heap.objs.size + 3) .none .none → h'.get? s.heap.objs.size = some o1 → h'.get? (s.heap.objs.size + 1) = some o2 → h'.objs.size = s.heap.objs.size + 5 →
      (∀ c o, s.heap.get? c = some o → h'.get? c = some o) → Q (.ref (s.heap.objs.size + 4)) { s with heap := h' }) :
    wpAny (model prog w) A (call (.type "zip") [.ref l1, .ref l2]) Q E s := by
  refine callType_new F.called_zip (by decide) (F.typeCall_zip_2 _ _) (F.newCall_zip_2 _ _) (fun obj => F.args_object_init_3 obj _ _) F.entry_zip_new
    (meets_zipG_new l1 l2 r1 r2 k2) ⟨hl1, hl2, ?_⟩
  have z1 : (zgH1 s.heap o1).objs.size = s.heap.objs.size + 1 := Heap.size_push ..
  have z2 : (zgH2 s.heap o1 o2).objs.size = s.heap.objs.size + 2 := by rw [Heap.size_push, z1]
  have z3 : (zgH3 s.heap o1 o2).objs.size = s.heap.objs.size + 3 := by rw [Heap.size_push, z2]
  have z4 : (zgH4 s.heap o1 o2).objs.size = s.heap.objs.size + 4 := by rw [Heap.size_push, z3]
  have z5 : (zgH5 s.heap o1 o2).objs.size = s.heap.objs.size + 5 := by rw [Heap.size_push, z4]
  have g5 : (zgH5 s.heap o1 o2).get? (zgH4 s.heap o1 o2).objs.size = some _ := Heap.get?_push_size _ rfl
  have g4 : (zgH5 s.heap o1 o2).get? (zgH3 s.heap o1 o2).objs.size = some _ := Heap.get?_push_of_some _ (Heap.get?_push_size _ rfl)
  have g3 : (zgH5 s.heap o1 o2).get? (zgH2 s.heap o1 o2).objs.size = some _ := Heap.get?_push_of_some _ (Heap.get?_push_of_some _ (Heap.get?_push_size _ rfl))
  have g2 : (zgH5 s.heap o1 o2).get? (zgH1 s.heap o1).objs.size = some o2 := Heap.get?_push_of_some _ (Heap.get?_push_of_some _ (Heap.get?_push_of_some _ (Heap.get?_push_size _ f2)))
  have g1 : (zgH5 s.heap o1 o2).get? s.heap.objs.size = some o1 := Heap.get?_push_of_some _ (Heap.get?_push_of_some _ (Heap.get?_push_of_some _ (Heap.get?_push_of_some _ (Heap.get?_push_size _ f1))))
  show _ ∧ _
  rw [z2, z3, z4] at g5
  rw [z1, z2] at g3
  rw [z3] at g4
  rw [z1] at g2
  rw [z4]
  exact ⟨⟨_, g5, rfl⟩, h _ g5 g3 g4 g1 g2 z5 fun c o x =>
    Heap.get?_push_of_some _ (Heap.get?_push_of_some _ (Heap.get?_push_of_some _ (Heap.get?_push_of_some _ (Heap.get?_push_of_some _ x))))⟩
end
theorem itr_list {l : Addr} {items : Array Value} : Itr1 l { cls := .type "list_iterator", data := .fields #[.ref l, .int 0 0] } (fun h => h.IsList l items) := fun prog w A E s Q h q => wpAny_pyIter_list h q
theorem itr_tuple {l : Addr} {items : Array Value} : Itr1 l { cls := .type "tuple_iterator", data := .fields #[.ref l, .int 0 0] } (fun h => h.IsTuple l items) := fun prog w A E s Q h q => wpAny_pyIter_tuple h q
theorem itr_range {r : Addr} {a b c : Int} {t u v : Tok} (hs : Builtin.Range.small a b c = true) : Itr1 r { cls := .type "range_iterator", data := .fields #[rawInt a, rawInt (Builtin.Range.rangeSize a b c), rawInt c] } (fun h => IsRange h r a b c t u v) := fun prog w A E s Q h q => wpAny_pyIter_range h hs q
end Rf

/-! RZip5: for over zip(a, b), zip(range(a, b, c), d). -/
namespace Rf
open PySem
open PySem.Sem (wp)
open L2 (V Hp HO SqL SqT Rd upd upd_same upd_ne Cx It Inv Turn FpOk RelV ObjOk TI TE TA PE PA PI PIE)
theorem nn (n a b : Nat) (h : a ≠ b) : n + a ≠ n + b := by omega
theorem nn0 (n a : Nat) (h : 0 ≠ a) : n + a ≠ n := by omega
theorem apart_n (n : Nat) : Apart (n + 4) (n + 2) (n + 3) n (n + 1) :=
  ⟨nn _ _ _ (by decide), nn _ _ _ (by decide), (nn0 _ _ (by decide)).symm, nn _ _ _ (by decide), nn _ _ _ (by decide), nn0 _ _ (by decide), nn _ _ _ (by decide), nn0 _ _ (by decide), nn _ _ _ (by decide), (nn0 _ _ (by decide)).symm⟩
theorem lt_nen {c n : Nat} (h : c < n) : c ≠ n + 4 ∧ c ≠ n + 3 ∧ c ≠ n + 1 ∧ c ≠ n := by omega
theorem lt_ne {c : Addr} {n : Nat} (h : c < n) : c ≠ n + 4 ∧ c ≠ n + 3 ∧ c ≠ n + 1 ∧ c ≠ n := lt_nen h
/-- the source that a walks -/
inductive ZSr (K : PySem.W.Frag) (H : Hp) (a : Addr) : Sr → Prop
  | l {xs : List V} (h : SqL K H a xs) : ZSr K H a (srL K a)
  | t {xs : List V} (h : SqT K H a xs) : ZSr K H a (srT K a)
def ZGet (X : Cx) (s : Heap) (it? : Addr → Prop) (v : Addr) (dp : List Addr) (S : Sr) : Prop :=
  ∃ (o : Obj) (c : Heap → Prop), c s ∧ Itr1 v o c ∧ (∀ h o, c h → c (h.push o)) ∧ o.isFreed = false ∧ ∀ it, it? it → ∃ St, IK X.prog X.w X.K it dp S St ∧ ∀ h, h.get? it = some o → St 0 h
section
variable {X : Cx} {pins : List (Addr × Obj)} {σ : L2.St} {H : Hp} {s : Shared}
theorem ZSr.get {a : Addr} {S : Sr} (z : ZSr X.K H a S) (I : Inv X pins σ H s) : a < s.heap.objs.size ∧ ZGet X s.heap (fun it => a ≠ it) a [a] S := by
  cases z with
  | l h =>
    obtain ⟨its, rv, p, hz⟩ := I.list h
    exact ⟨p.lt, _, _, p.isList, itr_list, fun h o q => Heap.IsList.push q o, rfl, fun it hne => ⟨_, ik_list hne, fun h e => ⟨_, e, rfl, rfl⟩⟩⟩
  | t h =>
    obtain ⟨its, rv, p, hz⟩ := I.tuple h
    obtain ⟨o1, ho1, _⟩ := id p
    exact ⟨Heap.lt_size ho1, _, _, p, itr_tuple, fun h o q => Heap.IsTuple.push q o, rfl, fun it hne => ⟨_, ik_tuple hne, fun h e => ⟨_, e, rfl, rfl⟩⟩⟩
theorem range_get {r : Addr} {i j c : Int} {n : Nat} {t u v : Tok} (hr : IsRange s.heap r i j c t u v) (g : L2.RgC i j c n) : ZGet X s.heap (fun _ => True) r [] (srR i c n) := by
  refine ⟨_, _, hr, itr_range g.2.2.1, fun h o q => Heap.get?_push_of_some _ q, rfl, fun it _ => ⟨_, ik_range, fun h e => ?_⟩⟩
  have e1 : i + ((0 : Nat) : Int) * c = i := by simp
  have e2 : (n : Int) - ((0 : Nat) : Int) = Builtin.Range.rangeSize i j c := by rw [g.2.2.2]; simp
  show IsRangeIter _ _ (i + ((0 : Nat) : Int) * c) ((n : Int) - ((0 : Nat) : Int)) c
  rw [e1, e2]
  exact e
theorem zip_fin {elts : List Expr} {kk : Nat} {tpos : Pos} {R : It → Hp → Prop} {v1 v2 : Addr} {d1 d2 : List Addr} {S1 S2 : Sr} (I : Inv X pins σ H s) (z1 : ZGet X s.heap (fun it => ∀ c ∈ d1, c ≠ it) v1 d1 S1) (z2 : ZGet X s.heap (fun it => ∀ c ∈ d2, c ≠ it) v2 d2 S2)
    (l1 : ∀ c ∈ d1, c < s.heap.objs.size) (l2 : ∀ c ∈ d2, c < s.heap.objs.size) (q : R (ItG S1 S2) H) :
    wpAny (model X.prog X.w) X.A (call (.type "zip") [.ref v1, .ref v2]) (fun v s1 => wpAny (model X.prog X.w) X.A (pyIter v) (PIE X pins σ (.Tuple elts kk tpos) R) X.xe s1) X.xe s := by
  obtain ⟨o1, c1, w1, r1, k1, f1, g1⟩ := z1
  obtain ⟨o2, c2, w2, r2, k2, f2, g2⟩ := z2
  refine call_zipG r1 r2 k2 f1 f2 w1 w2 fun h' hz hTI hTO e1 e2 hsz hk => wpAny_pyIter_zip hz ?_
  obtain ⟨St1, J1, y1⟩ := g1 s.heap.objs.size fun c hc => Nat.ne_of_lt (l1 c hc)
  obtain ⟨St2, J2, y2⟩ := g2 (s.heap.objs.size + 1) fun c hc => Nat.ne_of_lt (Nat.lt_of_lt_of_le (l2 c hc) (Nat.le_add_right _ _))
  have I2 : Inv X pins σ H { s with heap := h' } := I.kept (t' := s.toks) hk
  have D : Apart (s.heap.objs.size + 4) (s.heap.objs.size + 2) (s.heap.objs.size + 3) s.heap.objs.size (s.heap.objs.size + 1) := apart_n _
  refine ⟨s.heap.objs.size + 4, [s.heap.objs.size + 4, s.heap.objs.size + 2, s.heap.objs.size + 3, s.heap.objs.size, s.heap.objs.size + 1], _, _, H, rfl, I2, turn_zipG D J1 J2 (fun c hc => ?_) (fun c hc => ?_), ⟨hz, hTI, ⟨_, _, hTO⟩, y1 _ e1, y2 _ e2⟩, fun c hcm => ?_, q⟩
  · have := lt_ne (l1 c hc)
    exact ⟨this.1, this.2.1, this.2.2.1⟩
  · have := lt_ne (l2 c hc)
    exact ⟨this.1, this.2.1, this.2.2.2⟩
  · have e' : c = s.heap.objs.size + 4 ∨ c = s.heap.objs.size + 2 ∨ c = s.heap.objs.size + 3 ∨ c = s.heap.objs.size ∨ c = s.heap.objs.size + 1 := by simpa using hcm
    have hle : s.heap.objs.size ≤ c := by
      rcases e' with z | z | z | z | z
      · rw [z]; exact Nat.le_add_right _ _
      · rw [z]; exact Nat.le_add_right _ _
      · rw [z]; exact Nat.le_add_right _ _
      · rw [z]; exact Nat.le_refl _
      · rw [z]; exact Nat.le_add_right _ _
    exact I.fpOk hle (I.hok.fresh hle)
def iZipG (K : PySem.W.Frag) (ta : TA) : TI := fun σ H R => ta σ H fun vs H1 => ∃ a b S1 S2, vs = [.ref a, .ref b] ∧ ZSr K H1 a S1 ∧ ZSr K H1 b S2 ∧ R (ItG S1 S2) H1
theorem pi_zipG {e e2 : Expr} {ta : TA} {p pos tpos : Pos} {elts : List Expr} {kk : Nat} (hg : L2.Gl X "zip") (hm : X.mg "zip" = none) (ha : PA X [e, e2] ta)
    (hs : starEach [e, e2] X.env = (false, eval e X.env) :: starEach [e2] X.env := by rfl) (hpl : (backTo pos (starEach [e2] X.env)).any (·.1) = false := by rfl) :
    PI X (.Tuple elts kk tpos) (.Call (.Name "zip" p) [e, e2] [] pos) (iZipG X.K ta) := by
  refine ⟨fun pins s σ H R I h => ?_⟩
  refine PyProof.Rows.Call_ (L2.ld_blt I hg hm PyProof.Rows.boot_zip (PyProof.Rows.callWith_type1 (L2.thn (ha.run pos pins s σ H _ I h) fun us s1 ⟨vs, H1, I1, r1, q1⟩ => ?_) hs hpl))
  obtain ⟨a, b, S1, S2, ex, z1, z2, q⟩ := q1
  subst ex
  cases r1 with
  | cons r rr =>
    cases rr with
    | cons r' rr =>
      cases rr
      cases r
      cases r'
      obtain ⟨y1, g1⟩ := z1.get I1
      obtain ⟨y2, g2⟩ := z2.get I1
      refine zip_fin I1 (d1 := [a]) (d2 := [b]) ?_ ?_ (fun c hc => by rw [List.mem_singleton.mp hc]; exact y1) (fun c hc => by rw [List.mem_singleton.mp hc]; exact y2) q
      · obtain ⟨o, c, m1, m2, m3, m4, m5⟩ := g1
        exact ⟨o, c, m1, m2, m3, m4, fun it hi => m5 it (hi a (by simp))⟩
      · obtain ⟨o, c, m1, m2, m3, m4, m5⟩ := g2
        exact ⟨o, c, m1, m2, m3, m4, fun it hi => m5 it (hi b (by simp))⟩
def iZipR (K : PySem.W.Frag) (ta : TA) (tb : TE) : TI := fun σ H R => ta σ H fun vs H1 => ∃ (i j c : Int) (n : Nat), vs = [.int i, .int j, .int c] ∧ L2.RgC i j c n ∧ tb σ H1 fun x H2 => ∃ b S2, x = .ref b ∧ ZSr K H2 b S2 ∧ R (ItG (srR i c n) S2) H2
theorem pi_zipR {x y z e2 : Expr} {ta : TA} {tb : TE} {p p2 pos pos2 tpos : Pos} {elts : List Expr} {kk : Nat} (hg : L2.Gl X "zip") (hm : X.mg "zip" = none) (hg2 : L2.Gl X "range") (hm2 : X.mg "range" = none) (ha : PA X [x, y, z] ta) (hb : PE X e2 tb)
    (hs : starEach [.Call (.Name "range" p2) [x, y, z] [] pos2, e2] X.env = (false, eval (.Call (.Name "range" p2) [x, y, z] [] pos2) X.env) :: starEach [e2] X.env := by rfl) (hpl : (backTo pos (starEach [e2] X.env)).any (·.1) = false := by rfl) (hs2 : starEach [e2] X.env = [(false, eval e2 X.env)] := by rfl)
    (hs3 : starEach [x, y, z] X.env = (false, eval x X.env) :: starEach [y, z] X.env := by rfl) (hpl2 : (backTo pos2 (starEach [y, z] X.env)).any (·.1) = false := by rfl) :
    PI X (.Tuple elts kk tpos) (.Call (.Name "zip" p) [.Call (.Name "range" p2) [x, y, z] [] pos2, e2] [] pos) (iZipR X.K ta tb) := by
  refine ⟨fun pins s σ H R I h => ?_⟩
  refine PyProof.Rows.Call_ (L2.ld_blt I hg hm PyProof.Rows.boot_zip (PyProof.Rows.callWith_type1 ?_ hs hpl))
  rw [hs, hs2]
  show wpAny _ _ (spliced ((false, eval (.Call (.Name "range" p2) [x, y, z] [] pos2) X.env) :: backTo pos [(false, eval e2 X.env)])) _ _ s
  refine PySem.Calls.spliced_cons ?_
  refine PyProof.Rows.Call_ (L2.ld_blt I hg2 hm2 PyProof.Rows.boot_range (PyProof.Rows.callWith_type1 (L2.thn (ha.run pos2 pins s σ H _ I h) fun us s1 ⟨vs, H1, I1, r1, q1⟩ => ?_) hs3 hpl2))
  obtain ⟨i, j, k, n, e, gc, q⟩ := q1
  subst e
  cases r1 with
  | cons r rr =>
    cases rr with
    | cons r' rr =>
      cases rr with
      | cons r'' rr =>
        cases rr
        obtain ⟨t, rfl⟩ := r
        obtain ⟨t', rfl⟩ := r'
        obtain ⟨t'', rfl⟩ := r''
        refine PySem.call_range_3 gc.1 ?_ (.inl (PyProof.noPylong_small gc.2.1))
        have I2 : Inv X pins σ H1 { s1 with heap := s1.heap.push { cls := .type "range", data := .fields #[.int i t, .int j t', .int k t''] } } := I1.kept (t' := s1.toks) fun b o e => Heap.get?_push_of_some _ e
        have I3 : Inv X ((s1.heap.objs.size, ({ cls := .type "range", data := .fields #[.int i t, .int j t', .int k t''] } : Obj)) :: pins) σ H1 { s1 with heap := s1.heap.push { cls := .type "range", data := .fields #[.int i t, .int j t', .int k t''] } } := by
          refine I2.pins_of fun p hp => ?_
          rcases List.mem_cons.mp hp with e | hp
          · subst e
            obtain ⟨f0, f1, f2, _⟩ := I1.fpOk (Nat.le_refl _) (I1.hok.fresh (Nat.le_refl _))
            exact ⟨Heap.get?_push_size _ rfl, f0, f1, f2, fun v z => nomatch z⟩
          · exact I2.pin p (List.mem_append_right _ hp)
        refine PySem.Calls.spliced_cons (L2.thn (hb.run _ _ σ H1 _ I3 q) fun u s2 ⟨x2, H2, I4, rx, b, S2, ex, z2, q2⟩ => PySem.Calls.spliced_nil ?_)
        subst ex
        cases rx
        have hr := (I4.pin (s1.heap.objs.size, ({ cls := .type "range", data := .fields #[.int i t, .int j t', .int k t''] } : Obj)) (List.mem_append_right _ List.mem_cons_self)).1
        have I5 : Inv X pins σ H2 s2 := I4.pins_of fun p hp => I4.pin p (List.mem_append_right _ (List.mem_cons_of_mem _ hp))
        obtain ⟨y2, g2⟩ := z2.get I5
        refine zip_fin I5 (d1 := []) (d2 := [b]) ?_ ?_ (fun c hc => nomatch hc) (fun c hc => by rw [List.mem_singleton.mp hc]; exact y2) q2
        · obtain ⟨o, c, m1, m2, m3, m4, m5⟩ := range_get (X := X) (s := s2) (show IsRange s2.heap s1.heap.objs.size i j k t t' t'' from hr) gc
          exact ⟨o, c, m1, m2, m3, m4, fun it hi => m5 it trivial⟩
        · obtain ⟨o, c, m1, m2, m3, m4, m5⟩ := g2
          exact ⟨o, c, m1, m2, m3, m4, fun it hi => m5 it (hi b (by simp))⟩
end
end Rf

/-! RZip6: a loop over a zip, as the pure program has it. -/
namespace Rf
open PySem (Str Addr Value Pos Expr Stmt Scope Program World Heap Shared CmpOp Operator UnaryOp Obj)
open L2 (V Hp HO SqL SqT Rd upd upd_same upd_ne VK TE TA TI WX Cx Ends PE PA PI It Inv)
/-- S walks ds: from the heap H1 on, as long as what Sy tells stays -/
structure WkS (G : Gl) (S : Sr) (ds : List D) (H1 : Hp) (Sy W1 : Addr → Prop) (ρ1 : List Addr) : Prop where
  go : ∀ i Hc, (∀ a o, H1 a = some o → Sy a → NT o → Hc a = some o) → i < ds.length → S.go i Hc
  val : ∀ i Hc W' ρc, (∀ a o, H1 a = some o → Sy a → NT o → Hc a = some o) → (∀ a, W' a → W1 a ∨ ¬ Lv H1 a) → ρ1 <+: ρc → ∀ d, ds[i]? = some d → ∀ x, S.val i Hc x → Rep G Hc W' ρc d x
  stop : ∀ Hc, (∀ a o, H1 a = some o → Sy a → NT o → Hc a = some o) → S.stop ds.length Hc
  len : ds.length ≤ LIM
theorem zipD_get : ∀ {xs ys : List D} {i : Nat} {d : D}, (zipD xs ys)[i]? = some d → ∃ d1 d2, xs[i]? = some d1 ∧ ys[i]? = some d2 ∧ d = .tup [d1, d2]
  | x :: xs, y :: ys, 0, d, h => by
    rw [zipD] at h
    cases h
    exact ⟨x, y, rfl, rfl, rfl⟩
  | x :: xs, y :: ys, i + 1, d, h => by
    rw [zipD] at h
    exact zipD_get (xs := xs) (ys := ys) (i := i) h
  | [], _, i, d, h => by
    rw [zipD] at h
    · cases h
    · intros
      contradiction
  | _ :: _, [], i, d, h => by
    rw [zipD] at h
    · cases h
    · intros
      contradiction
theorem zipD_len : ∀ {xs ys : List D}, (zipD xs ys).length = min xs.length ys.length
  | x :: xs, y :: ys => by
    rw [zipD, List.length_cons, zipD_len, List.length_cons, List.length_cons]
    omega
  | [], _ => by
    rw [zipD]
    · simp
    · intros
      contradiction
  | _ :: _, [] => by
    rw [zipD]
    · simp
    · intros
      contradiction
section
variable {C : Cfg} {G : Gl} {g : Gm} {sc : Scope} {Wx : WX} {k : Kd} {a b c e2 : Expr} {A B A' B' : E} {X : Cx} {pos p : Pos} {ta : TA} {tb : TE}
theorem wk_zip {S1 S2 : Sr} {xs ys : List D} {H1 : Hp} {Sy W1 : Addr → Prop} {ρ1 : List Addr} (w1 : WkS G S1 xs H1 Sy W1 ρ1) (w2 : WkS G S2 ys H1 Sy W1 ρ1) : Wk G (ItG S1 S2) (zipD xs ys) H1 Sy W1 ρ1 where
  go := fun i Hc W' ρc hk w pr hn d hd => by
    obtain ⟨d1, d2, h1, h2, rfl⟩ := zipD_get hd
    refine ⟨⟨w1.go i Hc hk (List.getElem?_eq_some_iff.mp h1).1, w2.go i Hc hk (List.getElem?_eq_some_iff.mp h2).1⟩, fun v H' y => ?_⟩
    obtain ⟨T, x, y, rfl, hT, rfl, v1, v2⟩ := y
    have r1 := w1.val i Hc W' ρc hk w pr d1 h1 x v1
    have r2 := w2.val i Hc W' ρc hk w pr d2 h2 y v2
    have nw : ¬ W' T := fun q => (hn T q).some hT
    have r' : Reps G (upd Hc T (.tup [x, y])) W' ρc [d1, d2] [x, y] := Reps.mono (H' := upd Hc T (.tup [x, y])) (Kp.new hT) (fun a h => .inl h) (List.prefix_refl _) _ _ (Reps.cons r1 (Reps.cons r2 Reps.nil))
    refine ⟨upd_k hT, ?_⟩
    rw [Rep]
    exact ⟨T, _, rfl, .inl ⟨.inl upd_same, nw⟩, by show 2 ≤ LIM; decide, r'⟩
  stop := fun Hc hk => by
    show S1.stop _ Hc ∨ (S1.go _ Hc ∧ S2.stop _ Hc)
    rw [zipD_len]
    by_cases h : xs.length ≤ ys.length
    · rw [Nat.min_eq_left h]
      exact .inl (w1.stop Hc hk)
    · have h' : ys.length < xs.length := by omega
      rw [Nat.min_eq_right (by omega)]
      exact .inr ⟨w1.go _ Hc hk h', w2.stop Hc hk⟩
  len := by
    rw [zipD_len]
    exact Nat.le_trans (Nat.min_le_left _ _) w1.len
theorem wks_range {lo : Int} {n : Nat} {H1 : Hp} {S W1 : Addr → Prop} {ρ1 : List Addr} (hz : n ≤ LIM) : WkS G (srR lo (-1) n) (rangeL lo n (-1)) H1 S W1 ρ1 where
  go := fun i Hc hk hl => by
    show i < n
    unfold rangeL at hl
    simpa using hl
  val := fun i Hc W' ρc hk w pr d hd x hx => by
    unfold rangeL at hd
    rw [List.getElem?_map] at hd
    obtain ⟨j, hj, hd⟩ := Option.map_eq_some_iff.mp hd
    obtain ⟨hl, hj⟩ := List.getElem?_eq_some_iff.mp hj
    rw [List.getElem_range] at hj
    subst hj hd
    replace hx : x = _ := hx
    subst hx
    exact rep_int _
  stop := fun Hc hk => by
    show n ≤ (rangeL lo n (-1)).length
    unfold rangeL
    simp
  len := by
    unfold rangeL
    simpa using hz
/-- the items of a list, of a tuple -/
def zsq? : D → Option (List D)
  | .lst xs => some xs
  | .tup xs => some xs
  | _ => none
theorem zsr_of (hk : k = .rep ∨ k = .bor) {Z : Addr → Prop} {ρ : List Addr} {O : Nat → Option Addr} {H H0 : Hp} {d : D} {ds : List D} {v : V} (p : PostV k G H0 H (Wr Z ρ O) ρ d v) (hd : zsq? d = some ds) :
    ∃ a S, v = .ref a ∧ ZSr G.K H a S ∧ WkS G S ds H (sK k Z ρ O) (Wr Z ρ O) ρ := by
  have rb : RepB G H (Wr Z ρ O) ρ d v := by
    rcases hk with rfl | rfl
    · exact .inl p
    · exact p
  have nS : ∀ a, ¬ Wr Z ρ O a → sK k Z ρ O a := sK_of
  cases d with
  | lst xs =>
    cases hd
    have hl : ∃ a vs, v = .ref a ∧ H a = some (.lst vs) ∧ sK k Z ρ O a ∧ ds.length ≤ LIM ∧ Reps G H (Wr Z ρ O) ρ ds vs := by
      rcases hk with rfl | rfl
      · have p' : Rep G H (Wr Z ρ O) ρ (.lst ds) v := p
        rw [Rep] at p'
        obtain ⟨a, vs, e1, f, z, r⟩ := p'
        exact ⟨a, vs, e1, f.1, f.2, z, r⟩
      · have p' : RepB G H (Wr Z ρ O) ρ (.lst ds) v := p
        rcases p' with p' | ⟨a, vs, ds', e1, e2, h1, n, z, r⟩
        · rw [Rep] at p'
          obtain ⟨a, vs, e1, f, z, r⟩ := p'
          exact ⟨a, vs, e1, f.1, fun q => f.2 (.inr (.inl q)), z, r⟩
        · cases e1
          exact ⟨a, vs, e2, h1, n, z, r⟩
    obtain ⟨a, vs, e1, h1, sa, hz, r⟩ := hl
    refine ⟨a, _, e1, .l (SqL.of h1), ⟨fun i Hc hkc hl => ?_, fun i Hc W' ρc hkc w pr d hd x y => ?_, fun Hc hkc => ⟨vs, SqL.of (hkc a _ h1 sa nt_lst), by rw [r.len] <;> exact Nat.le_refl _⟩, hz⟩⟩
    · obtain ⟨v, ev, rv⟩ := r.get (List.getElem?_eq_getElem hl)
      exact ⟨vs, v, SqL.of (hkc a _ h1 sa nt_lst), ev⟩
    · have kp : Kp (Wr Z ρ O) H Hc := fun b o h n nt => hkc b o h (nS b n) nt
      obtain ⟨v, ev, rv⟩ := r.get hd
      have e2 := y vs (SqL.of (hkc a _ h1 sa nt_lst))
      rw [ev] at e2
      cases e2
      exact Rep.mono kp w pr _ _ rv
  | tup xs =>
    cases hd
    obtain ⟨a, vs, e1, f, z, r⟩ := rb.tup
    refine ⟨a, _, e1, .t f.sq, ⟨fun i Hc hkc hl => ?_, fun i Hc W' ρc hkc w pr d hd x y => ?_, fun Hc hkc => ⟨vs, f.kept nS hkc, by rw [r.len] <;> exact Nat.le_refl _⟩, z⟩⟩
    · obtain ⟨v, ev, rv⟩ := r.get (List.getElem?_eq_getElem hl)
      exact ⟨vs, v, f.kept nS hkc, ev⟩
    · have kp : Kp (Wr Z ρ O) H Hc := fun b o h n nt => hkc b o h (nS b n) nt
      obtain ⟨v, ev, rv⟩ := r.get hd
      have e2 := y vs (f.kept nS hkc)
      rw [ev] at e2
      cases e2
      exact Rep.mono kp w pr _ _ rv
  | _ => cases hd
theorem PostV.moved (hk : k = .rep ∨ k = .bor) {Z : Addr → Prop} {ρ ρ2 : List Addr} {O : Nat → Option Addr} {e : En} {σ : L2.St} {m2 : M} {H H0 H0' H2 : Hp} {d : D} {v : V} (st : Stp G Z O e σ ρ H ρ2 m2 H2) (p : PostV k G H0 H (Wr Z ρ O) ρ d v) : PostV k G H0' H2 (Wr Z ρ2 O) ρ2 d v := by
  rcases hk with rfl | rfl
  · exact st.rep p
  · exact st.repB p
theorem app_zip_eq {d d2 d3 : D} (h : app_zip [d, d2] = some d3) : ∃ xs ys, zsq? d = some xs ∧ zsq? d2 = some ys ∧ d3 = .lst (zipD xs ys) := by
  cases d <;> cases d2 <;> first
    | exact ⟨_, _, rfl, rfl, (Option.some.inj h).symm⟩
    | cases h
theorem snd_zip {ta : TE} (hk : k = .rep ∨ k = .bor) (ha : Snd C G Wx k ta A) (hb : Snd C G Wx k tb B) : SndI C G Wx k (iZipG G.K (L2.tCons ta (L2.tCons tb L2.tNil))) (.op .zip (.cons A (.cons B .nil))) := by
  intro Z ρ O e m σ H Rk s q
  rw [ev_op2] at q
  refine ha Z ρ O e m σ H _ s ?_
  cases ra : A.ev C.cf e m with
  | bad => rw [ra] at q; exact q
  | exc c m' => rw [ra] at q; exact q
  | ok d m' =>
    rw [ra] at q
    intro v ρ' H1' H' st1' hk1' p
    have st := st1'.trans s (.keep st1'.sr hk1')
    replace q : KI G Wx k Z O e σ ρ H Rk ((B.ev C.cf e m').bind fun d2 m2 => appR .zip [d, d2] m2) := q
    refine hb Z ρ' O e m' σ H' _ st.sr ?_
    cases rb : B.ev C.cf e m' with
    | bad => rw [rb] at q; exact q
    | exc c m2 => rw [rb] at q; exact fun cls dx ρ2 H2 st2 er => q cls dx ρ2 H2 (st.trans s st2) er
    | ok d2 m2 =>
      rw [rb] at q
      intro v2 ρ2 H1'' H2 st1'' hk1'' p2
      have st2' := st1''.trans st.sr (.keep st1''.sr hk1'')
      have st2 := st.trans s st2'
      replace q : KI G Wx k Z O e σ ρ H Rk (appR .zip [d, d2] m2) := q
      have pm : PostV k G H2 H2 (Wr Z ρ2 O) ρ2 d v := p.moved hk st2'
      unfold appR at q
      cases h3 : Op.zip.app [d, d2] m2 with
      | none =>
        rw [h3] at q
        exact q.elim
      | some d3 =>
        rw [h3] at q
        obtain ⟨xs, ys, e1, e2, rfl⟩ := app_zip_eq h3
        obtain ⟨a, S1, rfl, z1, w1⟩ := zsr_of hk pm e1
        obtain ⟨b, S2, rfl, z2, w2⟩ := zsr_of hk p2 e2
        exact ⟨a, b, S1, S2, rfl, z1, z2, q _ ρ2 H2 st2 (wk_zip w1 w2)⟩
theorem si_zipK {tg : List Expr} {kk : Nat} {tp : Pos} (hk : k = .rep ∨ k = .bor) (hx : isBlt g sc "zip" (.type "zip")) (ha : SE g sc Wx k a A) (hb : SE g sc Wx k b B) (hs : ∀ env : PySem.Env, PySem.starEach [a, b] env = [(false, PySem.eval a env), (false, PySem.eval b env)] := by intro _; rfl) (hs2 : ∀ env : PySem.Env, PySem.starEach [b] env = [(false, PySem.eval b env)] := by intro _; rfl) :
    SI g sc Wx k (.Tuple tg kk tp) (.Call (.Name "zip" p) [a, b] [] pos) (.op .zip (.cons A (.cons B .nil))) := by
  obtain ⟨ta, pa, qa⟩ := ha
  obtain ⟨tb, pb, qb⟩ := hb
  refine ⟨_, fun X o => ?_, snd_zip hk qa qb⟩
  have h := pi_zipG (X := X) (p := p) (pos := pos) (tpos := tp) (elts := tg) (kk := kk) (o.gl hx.1) (o.mgn hx.2.1) (L2.pa_cons (pa X o) (pa_any1 (pb X o) (hs2 _)) (by rw [hs, hs2])) (by rw [hs, hs2]) (by rw [hs2] <;> rfl)
  rw [o.K] at h
  exact h
theorem si_zip {tg : List Expr} {kk : Nat} {tp : Pos} (hx : isBlt g sc "zip" (.type "zip")) (ha : SE g sc Wx .rep a A) (hb : SE g sc Wx .rep b B) (hs : ∀ env : PySem.Env, PySem.starEach [a, b] env = [(false, PySem.eval a env), (false, PySem.eval b env)] := by intro _; rfl) (hs2 : ∀ env : PySem.Env, PySem.starEach [b] env = [(false, PySem.eval b env)] := by intro _; rfl) :
    SI g sc Wx .rep (.Tuple tg kk tp) (.Call (.Name "zip" p) [a, b] [] pos) (.op .zip (.cons A (.cons B .nil))) := si_zipK (.inl rfl) hx ha hb hs hs2
theorem si_zipB {tg : List Expr} {kk : Nat} {tp : Pos} (hx : isBlt g sc "zip" (.type "zip")) (ha : SE g sc Wx .bor a A) (hb : SE g sc Wx .bor b B) (hs : ∀ env : PySem.Env, PySem.starEach [a, b] env = [(false, PySem.eval a env), (false, PySem.eval b env)] := by intro _; rfl) (hs2 : ∀ env : PySem.Env, PySem.starEach [b] env = [(false, PySem.eval b env)] := by intro _; rfl) :
    SI g sc Wx .bor (.Tuple tg kk tp) (.Call (.Name "zip" p) [a, b] [] pos) (.op .zip (.cons A (.cons B .nil))) := si_zipK (.inr rfl) hx ha hb hs hs2
theorem snd_zipR {ta tb tc td : TE} {D' : E} (hk : k = .rep ∨ k = .bor) (ha : Snd C G Wx .bor ta A) (hb : Snd C G Wx .bor tb B) (hc : Snd C G Wx .bor tc A') (hd : Snd C G Wx k td D') :
    SndI C G Wx k (iZipR G.K (L2.tCons ta (L2.tCons tb (L2.tCons tc L2.tNil))) td) (.op .zip (.cons (.op .range3 (.cons A (.cons B (.cons A' .nil)))) (.cons D' .nil))) := by
  intro Z ρ O e m σ H Rk s q
  rw [ev_op2, ev_op3] at q
  refine ha Z ρ O e m σ H _ s ?_
  cases ra : A.ev C.cf e m with
  | bad => rw [ra] at q; exact q
  | exc c m' => rw [ra] at q; exact q
  | ok d m' =>
    rw [ra] at q
    intro v ρ' H1' H' st1' hk1' p
    have st := st1'.trans s (.keep st1'.sr hk1')
    replace q : KI G Wx k Z O e σ ρ H Rk (((B.ev C.cf e m').bind fun d2 m2 => (A'.ev C.cf e m2).bind fun d3 m3 => appR .range3 [d, d2, d3] m3).bind fun d4 m4 => (D'.ev C.cf e m4).bind fun d5 m5 => appR .zip [d4, d5] m5) := q
    refine hb Z ρ' O e m' σ H' _ st.sr ?_
    cases rb : B.ev C.cf e m' with
    | bad => rw [rb] at q; exact q
    | exc c m2 => rw [rb] at q; exact fun cls dx ρ2 H2 st2 er => q cls dx ρ2 H2 (st.trans s st2) er
    | ok d2 m2 =>
      rw [rb] at q
      intro v2 ρ2 H1'' H2 st1'' hk1'' p2
      have st2 := st.trans s (st1''.trans st.sr (.keep st1''.sr hk1''))
      replace q : KI G Wx k Z O e σ ρ H Rk (((A'.ev C.cf e m2).bind fun d3 m3 => appR .range3 [d, d2, d3] m3).bind fun d4 m4 => (D'.ev C.cf e m4).bind fun d5 m5 => appR .zip [d4, d5] m5) := q
      refine hc Z ρ2 O e m2 σ H2 _ st2.sr ?_
      cases rc : A'.ev C.cf e m2 with
      | bad => rw [rc] at q; exact q
      | exc c m3 => rw [rc] at q; exact fun cls dx ρ3 H3 st3 er => q cls dx ρ3 H3 (st2.trans s st3) er
      | ok d3 m3 =>
        rw [rc] at q
        intro v3 ρ3 H1x H3 st1x hk1x p3
        have st3 := st2.trans s (st1x.trans st2.sr (.keep st1x.sr hk1x))
        replace q : KI G Wx k Z O e σ ρ H Rk ((appR .range3 [d, d2, d3] m3).bind fun d4 m4 => (D'.ev C.cf e m4).bind fun d5 m5 => appR .zip [d4, d5] m5) := q
        unfold appR at q
        cases d with
        | int i =>
          cases d2 with
          | int j =>
            cases d3 with
            | int l =>
              have ev := p.repB.int
              subst ev
              have ev := p2.repB.int
              subst ev
              have ev := p3.repB.int
              subst ev
              cases hz : (small62 i && small62 j && decide (l = -1) && decide ((i - j).toNat ≤ LIM)) with
              | false =>
                have e1 : Op.range3.app [.int i, .int j, .int l] m3 = none := by
                  show (if small62 i && small62 j && decide (l = -1) && decide ((i - j).toNat ≤ LIM) then _ else none) = none
                  rw [hz] <;> rfl
                rw [e1] at q
                exact q.elim
              | true =>
                have e1 : Op.range3.app [.int i, .int j, .int l] m3 = some (.lst (rangeL i (i - j).toNat (-1))) := by
                  show (if small62 i && small62 j && decide (l = -1) && decide ((i - j).toNat ≤ LIM) then _ else none) = _
                  rw [hz] <;> rfl
                rw [e1] at q
                rw [Bool.and_eq_true, Bool.and_eq_true, Bool.and_eq_true, decide_eq_true_eq, decide_eq_true_eq] at hz
                obtain ⟨⟨⟨y1, y2⟩, y3⟩, y4⟩ := hz
                obtain ⟨b1, b2⟩ := small62_62 y1
                obtain ⟨b3, b4⟩ := small62_62 y2
                subst y3
                refine ⟨i, j, -1, (i - j).toNat, rfl, .neg b1 b2 b3 b4, ?_⟩
                replace q : KI G Wx k Z O e σ ρ H Rk ((D'.ev C.cf e m3).bind fun d5 m5 => appR .zip [.lst (rangeL i (i - j).toNat (-1)), d5] m5) := q
                refine hd Z ρ3 O e m3 σ H3 _ st3.sr ?_
                cases rd : D'.ev C.cf e m3 with
                | bad => rw [rd] at q; exact q
                | exc c m4 => rw [rd] at q; exact fun cls dx ρ4 H4 st4 er => q cls dx ρ4 H4 (st3.trans s st4) er
                | ok d5 m5 =>
                  rw [rd] at q
                  intro v5 ρ5 H1y H5 st1y hk1y p5
                  have st5 := st3.trans s (st1y.trans st3.sr (.keep st1y.sr hk1y))
                  replace q : KI G Wx k Z O e σ ρ H Rk (appR .zip [.lst (rangeL i (i - j).toNat (-1)), d5] m5) := q
                  unfold appR at q
                  cases h3 : Op.zip.app [.lst (rangeL i (i - j).toNat (-1)), d5] m5 with
                  | none =>
                    rw [h3] at q
                    exact q.elim
                  | some d6 =>
                    rw [h3] at q
                    obtain ⟨xs, ys, e1, e2, rfl⟩ := app_zip_eq h3
                    cases e1
                    obtain ⟨b, S2, rfl, z2, w2⟩ := zsr_of hk p5 e2
                    exact ⟨b, S2, rfl, z2, q _ ρ5 H5 st5 (wk_zip (wks_range y4) w2)⟩
            | _ => exact q.elim
          | _ => cases d3 <;> exact q.elim
        | _ => cases d2 <;> cases d3 <;> exact q.elim
theorem si_zipR3 {tg : List Expr} {kk : Nat} {tp p2 pos2 : Pos} {D' : E} (hx : isBlt g sc "zip" (.type "zip")) (hx2 : isBlt g sc "range" (.type "range")) (ha : SE g sc Wx .bor a A) (hb : SE g sc Wx .bor b B) (hc : SE g sc Wx .bor c A') (hd : SE g sc Wx .rep e2 D')
    (hs : ∀ env : PySem.Env, PySem.starEach [.Call (.Name "range" p2) [a, b, c] [] pos2, e2] env = (false, PySem.eval (.Call (.Name "range" p2) [a, b, c] [] pos2) env) :: PySem.starEach [e2] env := by intro _; rfl) (hs1 : ∀ env : PySem.Env, PySem.starEach [e2] env = [(false, PySem.eval e2 env)] := by intro _; rfl)
    (hs2 : ∀ env : PySem.Env, PySem.starEach [a, b, c] env = [(false, PySem.eval a env), (false, PySem.eval b env), (false, PySem.eval c env)] := by intro _; rfl) (hs3 : ∀ env : PySem.Env, PySem.starEach [b, c] env = [(false, PySem.eval b env), (false, PySem.eval c env)] := by intro _; rfl) (hs4 : ∀ env : PySem.Env, PySem.starEach [c] env = [(false, PySem.eval c env)] := by intro _; rfl) :
    SI g sc Wx .rep (.Tuple tg kk tp) (.Call (.Name "zip" p) [.Call (.Name "range" p2) [a, b, c] [] pos2, e2] [] pos) (.op .zip (.cons (.op .range3 (.cons A (.cons B (.cons A' .nil)))) (.cons D' .nil))) := by
  obtain ⟨ta, pa, qa⟩ := ha
  obtain ⟨tb, pb, qb⟩ := hb
  obtain ⟨tc, pc, qc⟩ := hc
  obtain ⟨td, pd, qd⟩ := hd
  refine ⟨_, fun X o => ?_, snd_zipR (.inl rfl) qa qb qc qd⟩
  have h := pi_zipR (X := X) (p := p) (pos := pos) (tpos := tp) (elts := tg) (kk := kk) (p2 := p2) (pos2 := pos2) (o.gl hx.1) (o.mgn hx.2.1) (o.gl hx2.1) (o.mgn hx2.2.1) (L2.pa_cons (pa X o) (L2.pa_cons (pb X o) (pa_any1 (pc X o) (hs4 _)) (by rw [hs3, hs4])) (by rw [hs2, hs3])) (pd X o) (hs _) (by rw [hs1] <;> rfl) (hs1 _) (by rw [hs2, hs3]) (by rw [hs3] <;> rfl)
  rw [o.K] at h
  exact h
end
end Rf

/-! RCh: a comparison of four things in one chain. -/
namespace L2
open PySem PySem.W PyProof.Rows
section
variable {X : Cx} {a b c d : Expr} {pos : Pos} {ta tb tc td : TE}
/-- a op1 b op2 c op3 d -/
def tChain3 (r r' r2 : R2) (ta tb tc td : TE) : TE := fun σ H Q => ta σ H fun x H1 => tb σ H1 fun y H2 => r x y H2 fun z H3 => ∃ k, z = .bl k ∧
  (if k = true then tc σ H3 fun w' H4 => r' y w' H4 fun z2 H5 => ∃ k2, z2 = .bl k2 ∧ (if k2 = true then td σ H5 fun u' H6 => r2 w' u' H6 Q else Q (.bl false) H5) else Q (.bl false) H3)
theorem pe_chain3 {op op' op2 : CmpOp} {r r' r2 : R2} (ho : OpR X (compareOp op) r) (ho' : OpR X (compareOp op') r') (ho2 : OpR X (compareOp op2) r2) (ha : PE X a ta) (hb : PE X b tb) (hc : PE X c tc) (hd : PE X d td)
    (hm : lastMarks [op, op', op2] [b, c, d] = false := by with_unfolding_all rfl) : PE X (.Compare a [op, op', op2] [b, c, d] pos) (tChain3 r r' r2 ta tb tc td) := by
  refine ⟨fun pins s σ H Q I h => ?_⟩
  refine Compare_chain (thn (ha.run pins s σ H _ I h) fun v s1 ⟨x, H1, I1, r1, q1⟩ => chain_link (thn (hb.run pins s1 σ H1 _ I1 q1) fun u s2 ⟨y, H2, I2, r2', q2⟩ =>
    thn (ho pins s2 σ H2 x y v u _ I2 r1 r2' q2) fun d s3 ⟨z, H3, I3, r3, k, e, q3⟩ => ?_)) hm
  subst e
  cases r3
  refine wpAny_truthy_bool ?_
  cases k with
  | false => exact ite_ff ⟨.bl false, H3, I3, rfl, q3⟩
  | true =>
    refine ite_tt (chain_link (thn (hc.run pins s3 σ H3 _ I3 q3) fun w' s4 ⟨z', H4, I4, r4, q4⟩ => thn (ho' pins s4 σ H4 y z' u w' _ I4 r2' r4 q4) fun d' s5 ⟨z2, H5, I5, r5, k2, e2, q5⟩ => ?_))
    subst e2
    cases r5
    refine wpAny_truthy_bool ?_
    cases k2 with
    | false => exact ite_ff ⟨.bl false, H5, I5, rfl, q5⟩
    | true => exact ite_tt (chain_last (thn (hd.run pins s5 σ H5 _ I5 q5) fun w6 s6 ⟨z6, H6, I6, r6, q6⟩ => ho2 pins s6 σ H6 z' z6 w' w6 Q I6 r4 r6 q6))
theorem pt_chain3 {op op' op2 : CmpOp} {r r' r2 : R2} (ho : OpR X (compareOp op) r) (ho' : OpR X (compareOp op') r') (ho2 : OpR X (compareOp op2) r2) (ha : PE X a ta) (hb : PE X b tb) (hc : PE X c tc) (hd : PE X d td)
    (hm : lastMarks [op, op', op2] [b, c, d] = false := by with_unfolding_all rfl) : PT X (.Compare a [op, op', op2] [b, c, d] pos) (tTest (tChain3 r r' r2 ta tb tc td)) := by
  refine ⟨fun pins s σ H Q I h => ?_⟩
  refine isTrue_chain (thn (ha.run pins s σ H _ I h) fun v s1 ⟨x, H1, I1, r1, q1⟩ => test_link (thn (hb.run pins s1 σ H1 _ I1 q1) fun u s2 ⟨y, H2, I2, r2', q2⟩ =>
    thn (ho pins s2 σ H2 x y v u _ I2 r1 r2' q2) fun d s3 ⟨z, H3, I3, r3, k, e, q3⟩ => ?_)) hm
  subst e
  cases r3
  refine wpAny_truthy_bool ?_
  cases k with
  | false =>
    obtain ⟨k', e', q'⟩ := q3
    cases e'
    exact ite_ff ⟨H3, I3, q'⟩
  | true =>
    refine ite_tt (test_link (thn (hc.run pins s3 σ H3 _ I3 q3) fun w' s4 ⟨z', H4, I4, r4, q4⟩ => thn (ho' pins s4 σ H4 y z' u w' _ I4 r2' r4 q4) fun d' s5 ⟨z2, H5, I5, r5, k2, e2, q5⟩ => ?_))
    subst e2
    cases r5
    refine wpAny_truthy_bool ?_
    cases k2 with
    | false =>
      obtain ⟨k', e', q'⟩ := q5
      cases e'
      exact ite_ff ⟨H5, I5, q'⟩
    | true =>
      refine ite_tt (test_last (thn (hd.run pins s5 σ H5 _ I5 q5) fun w6 s6 ⟨z6, H6, I6, r6, q6⟩ => thn (ho2 pins s6 σ H6 z' z6 w' w6 _ I6 r4 r6 q6) fun d6 s7 ⟨z7, H7, I7, r7, k7, e7, q7⟩ => ?_))
      subst e7
      cases r7
      exact wpAny_truthy_bool ⟨H7, I7, q7⟩
end
end L2
namespace Rf
open PySem (Str Addr Value Pos Expr Stmt Scope Program World Heap Shared CmpOp Operator UnaryOp)
open L2 (V Hp HO SqL SqT Rd upd upd_same upd_ne VK XK TE TT TA TS TG TI WX Cx Ends OpR R2 rI rI0 PE PT PW PA PS PSs PG PI)
section
variable {C : Cfg} {G : Gl} {Wx : WX} {k : Kd} {t ta tb tc td : TE} {A B A' B' : E} {Z : Addr → Prop} {ρ ρ' : List Addr} {O : Nat → Option Addr} {e : En} {m m' : M} {σ : L2.St} {H H' : Hp} {Q : VK}
theorem snd_chain3 {r r' r2 : R2} {o p o2 : Op} (ho : Op2 .rep G r o) (hp : Op2 .rep G r' p) (ho2 : Op2 .rep G r2 o2) (ha : Snd C G Wx .bor ta A) (hb : Snd C G Wx .bor tb B) (hc : Snd C G Wx .bor tc A') (hd : Snd C G Wx .bor td B') : Snd C G Wx .rep (L2.tChain3 r r' r2 ta tb tc td) (.chain3 o p o2 A B A' B') := by
  intro Z ρ O e m σ H Q s q
  rw [E.ev] at q
  refine ha Z ρ O e m σ H _ s ?_
  cases ra : A.ev C.cf e m with
  | bad => rw [ra] at q; exact q
  | exc c m' => rw [ra] at q; exact q
  | ok d m' =>
    rw [ra] at q
    intro v ρ' H1' H' st1' hk1' pv
    have st := st1'.trans s (.keep st1'.sr hk1')
    refine hb Z ρ' O e m' σ H' _ st.sr ?_
    cases rb : B.ev C.cf e m' with
    | bad => simp only [R.bind, rb] at q; exact q
    | exc c m2 => simp only [R.bind, rb] at q; exact KE.exc s st q
    | ok d2 m2 =>
      intro v2 ρ2 H1'' H2 st1'' hk1'' p2
      have st2 := st1''.trans st.sr (.keep st1''.sr hk1'')
      have st3 := st.trans s st2
      simp only [R.bind, rb] at q
      cases ro : o.app [d, d2] m2 with
      | none => simp only [ro] at q; exact q.elim
      | some d3 =>
        simp only [ro] at q
        refine ho Z ρ2 O m2 H2 d d2 d3 v v2 _ st2.sr.gd (st2.repB pv) p2 ro fun v3 H3 hk p3 => ?_
        have st4 : Stp G Z O e σ ρ H ρ2 m2 H3 := st3.trans s (.keep st2.sr hk)
        cases d3 with
        | bl b =>
          have ev3 : v3 = .bl b := p3.repB.bl
          refine ⟨b, ev3, ?_⟩
          cases b with
          | false =>
            exact q (.bl false) ρ2 H3 H3 st4 keep_refl (prep (rep_bl _))
          | true =>
            show tc σ H3 _
            refine hc Z ρ2 O e m2 σ H3 _ st4.sr ?_
            cases rc : A'.ev C.cf e m2 with
            | bad => simp only [if_true, rc] at q; exact q
            | exc c m3 => simp only [if_true, rc] at q; exact KE.exc s st4 q
            | ok d4 m3 =>
              intro v4 ρ4 H1''' H4 st1''' hk1''' p4
              have st5 := st1'''.trans st4.sr (.keep st1'''.sr hk1''')
              simp only [if_true, rc] at q
              have st6 := st4.trans s st5
              cases rp : p.app [d2, d4] m3 with
              | none => simp only [rp] at q; exact q.elim
              | some d5 =>
                simp only [rp] at q
                have stk : Stp G Z O e σ ρ2 H2 ρ2 m2 H3 := .keep st2.sr hk
                refine hp Z ρ4 O m3 H4 d2 d4 d5 v2 v4 _ st5.sr.gd (st5.repB (stk.repB p2.repB)) p4 rp fun v5 H5 hk5 p5 => ?_
                have st7 : Stp G Z O e σ ρ H ρ4 m3 H5 := st6.trans s (.keep st5.sr hk5)
                have stk5 : Stp G Z O e σ ρ4 H4 ρ4 m3 H5 := .keep st5.sr hk5
                cases d5 with
                | bl b2 =>
                  have ev5 : v5 = .bl b2 := p5.repB.bl
                  refine ⟨b2, ev5, ?_⟩
                  cases b2 with
                  | false =>
                    exact q (.bl false) ρ4 H5 H5 st7 keep_refl (prep (rep_bl _))
                  | true =>
                    show td σ H5 _
                    refine hd Z ρ4 O e m3 σ H5 _ st7.sr ?_
                    cases rd : B'.ev C.cf e m3 with
                    | bad => simp only [if_true, rd] at q; exact q
                    | exc c m4 => simp only [if_true, rd] at q; exact KE.exc s st7 q
                    | ok d6 m4 =>
                      intro v6 ρ6 H16 H6 st16 hk16 p6
                      have st8 := st16.trans st7.sr (.keep st16.sr hk16)
                      simp only [if_true, rd] at q
                      have st9 := st7.trans s st8
                      cases rq : o2.app [d4, d6] m4 with
                      | none => simp only [rq] at q; exact q.elim
                      | some d7 =>
                        simp only [rq] at q
                        refine ho2 Z ρ6 O m4 H6 d4 d6 d7 v4 v6 Q st8.sr.gd (st8.repB (stk5.repB p4.repB)) p6 rq fun v7 H7 hk7 p7 => ?_
                        exact q v7 ρ6 H6 H7 st9 hk7 p7
                | _ => exact q.elim
        | _ => exact q.elim
end
section
variable {g : Gm} {sc : Scope} {Wx : WX} {a b c d : Expr} {A B A' B' : E} {pos : Pos}
theorem se_chain3 {op op' op2 : CmpOp} {o o' o2 : Op} {r r' r2 : R2} (h : CmpR g sc Wx op o r) (h' : CmpR g sc Wx op' o' r') (h2 : CmpR g sc Wx op2 o2 r2) (ha : SE g sc Wx .bor a A) (hb : SE g sc Wx .bor b B) (hc : SE g sc Wx .bor c A') (hd : SE g sc Wx .bor d B') (hm : PySem.lastMarks [op, op', op2] [b, c, d] = false := by with_unfolding_all rfl) :
    SE g sc Wx .rep (.Compare a [op, op', op2] [b, c, d] pos) (.chain3 o o' o2 A B A' B') := by
  obtain ⟨ta, pa, qa⟩ := ha
  obtain ⟨tb, pb, qb⟩ := hb
  obtain ⟨tc, pc, qc⟩ := hc
  obtain ⟨td, pd, qd⟩ := hd
  exact ⟨_, fun X o => L2.pe_chain3 (h.op X o) (h'.op X o) (h2.op X o) (pa X o) (pb X o) (pc X o) (pd X o) hm, snd_chain3 h.snd h'.snd h2.snd qa qb qc qd⟩
theorem st_chain3 {op op' op2 : CmpOp} {o o' o2 : Op} {r r' r2 : R2} (h : CmpR g sc Wx op o r) (h' : CmpR g sc Wx op' o' r') (h2 : CmpR g sc Wx op2 o2 r2) (ha : SE g sc Wx .bor a A) (hb : SE g sc Wx .bor b B) (hc : SE g sc Wx .bor c A') (hd : SE g sc Wx .bor d B') (hm : PySem.lastMarks [op, op', op2] [b, c, d] = false := by with_unfolding_all rfl) :
    ST g sc Wx (.Compare a [op, op', op2] [b, c, d] pos) (.chain3 o o' o2 A B A' B') := by
  obtain ⟨ta, pa, qa⟩ := ha
  obtain ⟨tb, pb, qb⟩ := hb
  obtain ⟨tc, pc, qc⟩ := hc
  obtain ⟨td, pd, qd⟩ := hd
  exact ⟨_, fun X o => L2.pt_chain3 (h.op X o) (h'.op X o) (h2.op X o) (pa X o) (pb X o) (pc X o) (pd X o) hm, sndT_test (snd_chain3 h.snd h'.snd h2.snd qa qb qc qd)⟩
end
end Rf

/-! RStr: texts: methods, f-strings; sorted sets. -/
namespace Rf
open PySem (Str Addr Value Pos Expr Stmt Scope Program World Heap Shared CmpOp Operator UnaryOp)
open L2 (V Hp HO SqL SqT Rd upd upd_same upd_ne VK XK TE TT TA TS TG TI WX Cx Ends OpR R2 rI rI0 PE PT PW PA PS PSs PG PI)
def mkS (s : List Nat) : Str := ⟨s.toArray⟩
theorem tl_mkS (s : List Nat) : TL.tl (mkS s) = s := rfl
theorem mkS_tl (x : Str) : mkS (TL.tl x) = x := TL.mk_tl x
theorem mkS_len (s : List Nat) : (mkS s).length = s.length := vstr_len s
theorem joinL_eq (sep : List Nat) : ∀ ss : List (List Nat), TL.joinL sep ss = joinS sep ss
  | [] => rfl
  | [_] => rfl
  | x :: y :: r => by
    have e1 : TL.joinL sep (x :: y :: r) = x ++ (sep ++ TL.joinL sep (y :: r)) := rfl
    have e2 : joinS sep (x :: y :: r) = x ++ sep ++ joinS sep (y :: r) := rfl
    rw [e1, e2, joinL_eq sep (y :: r), List.append_assoc]
theorem join_mk (sep : List Nat) (ss : List (List Nat)) : PySem.Txt.join (mkS sep) (ss.map mkS) = mkS (joinS sep ss) := by
  have e : TL.tl (PySem.Str.join (mkS sep) (ss.map mkS)) = joinS sep ss := by
    rw [TL.tl_join, List.map_map, show TL.tl ∘ mkS = id from rfl, List.map_id, tl_mkS, joinL_eq]
  rw [TL.join_eq, ← mkS_tl (PySem.Str.join (mkS sep) (ss.map mkS)), e]
theorem spl_splitS (c : Nat) : ∀ (l acc : List Nat), ∃ y ys, splitS c l = y :: ys ∧ TL.spl [c] 0 acc l = (acc ++ y) :: ys
  | [], acc => ⟨[], [], rfl, by simp [TL.spl]⟩
  | d :: l, acc => by
    have hp : TL.pre [c] (d :: l) = decide (d = c) := by
      show (([d] : List Nat) == [c]) = _
      rw [Bool.eq_iff_iff]
      simp
    by_cases h : d = c
    · obtain ⟨y, ys, h1, h2⟩ := spl_splitS c l []
      refine ⟨[], y :: ys, ?_, ?_⟩
      · rw [splitS, if_pos h, h1]
      · rw [TL.spl, hp, if_pos (by simp [h])]
        show acc :: TL.spl [c] 0 [] l = _
        rw [h2]
        simp
    · obtain ⟨y, ys, h1, h2⟩ := spl_splitS c l (acc ++ [d])
      refine ⟨d :: y, ys, ?_, ?_⟩
      · rw [splitS, if_neg h, h1]
      · rw [TL.spl, hp, if_neg (by simp [h]), h2]
        simp
theorem map_mkS_tl (l : List Str) : (l.map TL.tl).map mkS = l := by
  rw [List.map_map]
  conv => rhs; rw [← List.map_id l]
  exact List.map_congr_left fun x _ => mkS_tl x
theorem split_mk {c : Nat} (hc : c < 128) (x : List Nat) : PySem.Txt.split (mkS x) (mkS [c]) = (splitS c x).map mkS := by
  have hk : ¬ PySem.Builtin.Str.strKind (mkS x) < PySem.Builtin.Str.strKind (mkS [c]) := TL.kind_ok (by
    show (#[c].all (· < 256)) = true
    simp; omega)
  have e := TL.split_spl (mkS x) (mkS [c]) (by rw [tl_mkS]; simp) hk
  obtain ⟨y, ys, h1, h2⟩ := spl_splitS c x []
  rw [tl_mkS, tl_mkS, h2] at e
  rw [← map_mkS_tl (PySem.Txt.split (mkS x) (mkS [c])), e, h1]
  rfl
section
variable {G : Gl} {Z : Addr → Prop} {ρ : List Addr} {O : Nat → Option Addr} {m : M} {H : Hp}
theorem Reps.strs2 {W : Addr → Prop} : ∀ {ds : List D} {vs : List V} {ss : List (List Nat)}, Reps G H W ρ ds vs → strs? ds = some ss → vs = (ss.map mkS).map V.str ∧ ds = ss.map D.str ∧ ∀ s ∈ ss, strOk s
  | [], vs, ss, h, e => by
    rw [h.inv_nil]
    have e1 : ([] : List (List Nat)) = ss := by simpa [strs?] using e
    subst e1
    exact ⟨rfl, rfl, fun _ h => nomatch h⟩
  | d :: ds, vs, ss, h, e => by
    obtain ⟨v, r, rfl, h1, h2⟩ := h.inv_cons
    cases d with
    | str i =>
      have e1 : (strs? ds).map (i :: ·) = some ss := e
      obtain ⟨js, e2, e3⟩ := Option.map_eq_some_iff.mp e1
      obtain ⟨q1, q2, q3⟩ := Reps.strs2 h2 e2
      subst e3
      rw [Rep] at h1
      rw [q1, q2, h1.1]
      exact ⟨rfl, rfl, fun s hs => (List.mem_cons.mp hs).elim (fun z => z ▸ h1.2) (q3 s)⟩
    | _ => simp [strs?] at e
theorem reps_strs {W : Addr → Prop} : ∀ {ss : List (List Nat)}, (∀ s ∈ ss, strOk s) → Reps G H W ρ (ss.map D.str) ((ss.map mkS).map V.str)
  | [], _ => Reps.nil
  | s :: ss, h => Reps.cons (by rw [Rep]; exact ⟨rfl, h s (.head _)⟩) (reps_strs fun x hx => h x (.tail _ hx))
theorem joinS_mem {sep : List Nat} {x : Nat} : ∀ {ss : List (List Nat)}, x ∈ joinS sep ss → x ∈ sep ∨ ∃ s ∈ ss, x ∈ s
  | [], h => by cases h
  | [s], h => .inr ⟨s, .head _, h⟩
  | s :: t :: r, h => by
    have e2 : joinS sep (s :: t :: r) = s ++ sep ++ joinS sep (t :: r) := rfl
    rw [e2, List.mem_append, List.mem_append] at h
    rcases h with (h | h) | h
    · exact .inr ⟨s, .head _, h⟩
    · exact .inl h
    · rcases joinS_mem h with h | ⟨u, hu, h⟩
      · exact .inl h
      · exact .inr ⟨u, .tail _ hu, h⟩
theorem joinS_len (sep : List Nat) : ∀ ss : List (List Nat), (joinS sep ss).length ≤ (ss.map List.length).sum + ss.length * sep.length
  | [] => Nat.zero_le _
  | [s] => by simp [joinS]
  | s :: t :: r => by
    have e2 : joinS sep (s :: t :: r) = s ++ sep ++ joinS sep (t :: r) := rfl
    have ih := joinS_len sep (t :: r)
    rw [e2, List.length_append, List.length_append]
    rw [List.map_cons, List.sum_cons, List.length_cons, Nat.succ_mul]
    omega
theorem splitS_mem {c x : Nat} : ∀ {l s : List Nat}, s ∈ splitS c l → x ∈ s → x ∈ l
  | [], s, h, hx => by
    simp only [splitS, List.mem_cons, List.not_mem_nil, or_false] at h
    subst h
    exact hx
  | d :: l, s, h, hx => by
    rw [splitS] at h
    split at h
    · rcases List.mem_cons.mp h with h | h
      · subst h; cases hx
      · exact .tail _ (splitS_mem h hx)
    · split at h
      · rename_i e
        obtain ⟨y, ys, h1, _⟩ := spl_splitS c l []
        rw [e] at h1
        cases h1
      · rename_i y ys e
        rcases List.mem_cons.mp h with h | h
        · subst h
          rcases List.mem_cons.mp hx with hx | hx
          · subst hx; exact .head _
          · exact .tail _ (splitS_mem (by rw [e]; exact .head _) hx)
        · exact .tail _ (splitS_mem (by rw [e]; exact .tail _ h) hx)
theorem splitS_len (c : Nat) : ∀ l : List Nat, (splitS c l).length ≤ l.length + 1
  | [] => Nat.le_refl _
  | d :: l => by
    have ih := splitS_len c l
    rw [splitS]
    split
    · simp; omega
    · split
      · simp
      · rename_i y ys e
        rw [e] at ih
        simp at ih ⊢
        omega
theorem splitS_part {c : Nat} : ∀ {l s : List Nat}, s ∈ splitS c l → s.length ≤ l.length
  | [], s, h => by
    simp only [splitS, List.mem_cons, List.not_mem_nil, or_false] at h
    subst h
    exact Nat.le_refl _
  | d :: l, s, h => by
    rw [splitS] at h
    split at h
    · rcases List.mem_cons.mp h with h | h
      · subst h; exact Nat.zero_le _
      · exact Nat.le_trans (splitS_part h) (by simp)
    · split at h
      · rename_i e
        obtain ⟨y, ys, h1, _⟩ := spl_splitS c l []
        rw [e] at h1
        cases h1
      · rename_i y ys e
        rcases List.mem_cons.mp h with h | h
        · subst h
          have := splitS_part (c := c) (l := l) (s := y) (by rw [e]; exact .head _)
          simp; omega
        · exact Nat.le_trans (splitS_part (by rw [e]; exact .tail _ h)) (by simp)
/-! ### methods of texts -/
def rJoin (K : PySem.W.Frag) : V → List V → Hp → VK → Prop := fun x xs H Q => ∃ a p, ∃ ys : List Str, x = .str a ∧ xs = [.ref p] ∧ (SqL K H p (ys.map V.str) ∨ SqT K H p (ys.map V.str)) ∧ (ys.map (·.length)).sum + ys.length * a.length ≤ 16777216 ∧ Q (.str (PySem.Txt.join a ys)) H
def rSplit : V → List V → Hp → VK → Prop := fun x xs H Q => ∃ a b, x = .str a ∧ xs = [.str b] ∧ (b.length == 0) = false ∧ a.length + 2 ≤ PySem.sizeLine ∧ L2.rNewStrs (PySem.Txt.split a b) H Q
theorem o_join : Op2 .rep G (fun x y H Q => rJoin G.K x [y] H Q) .join := by
  intro Z ρ O m H d1 d2 d v1 v2 Q g h1 h2 e k
  replace e : app_join [d1, d2] = some d := e
  unfold app_join at e
  split at e <;> rename_i hx <;> first | (simp only [List.cons.injEq, and_true] at hx; obtain ⟨rfl, rfl⟩ := hx) | cases e
  obtain ⟨ss, e2, e3⟩ := Option.bind_eq_some_iff.mp e
  split at e3 <;> cases e3
  rename_i hlt
  obtain ⟨e1, s1⟩ := h1.str
  obtain ⟨a, vs, e4, q1, z1, r1⟩ := h2.lst
  obtain ⟨q2, q3, q4⟩ := r1.strs2 e2
  subst q2
  rw [e1, e4]
  refine ⟨_, a, ss.map mkS, rfl, rfl, .inl (SqL.of q1), ?_, ?_⟩
  · rw [List.map_map, List.length_map, show ((fun x : Str => x.length) ∘ mkS) = List.length from funext mkS_len, vstr_len]
    exact hlt
  · rename_i sep _
    rw [show PySem.Txt.join ({ cps := sep.toArray } : Str) (ss.map mkS) = mkS (joinS sep ss) from join_mk sep ss]
    refine k _ _ keep_refl (prep ?_)
    rw [Rep]
    refine ⟨rfl, Nat.le_trans (joinS_len _ _) hlt, fun c hc => ?_⟩
    rcases joinS_mem hc with z | ⟨s, hs, z⟩
    · exact s1.2 c z
    · exact (q4 s hs).2 c z
theorem o_split : Op2 .fre G (fun x y H Q => rSplit x [y] H Q) .split := by
  intro Z ρ O m H d1 d2 d v1 v2 Q g h1 h2 e k
  replace e : app_split [d1, d2] = some d := e
  unfold app_split at e
  split at e <;> rename_i hx <;> first | (simp only [List.cons.injEq, and_true] at hx; obtain ⟨rfl, rfl⟩ := hx) | cases e
  split at e <;> cases e
  rename_i x c hlt
  obtain ⟨e1, s1⟩ := h1.str
  obtain ⟨e2, s2⟩ := h2.str
  rw [e1, e2]
  refine ⟨_, _, rfl, rfl, rfl, by rw [vstr_len, ← LIM_eq]; exact hlt.1, fun p hn => ?_⟩
  rw [show PySem.Txt.split ({ cps := x.toArray } : Str) ({ cps := [c].toArray } : Str) = (splitS c x).map mkS from split_mk hlt.2 x]
  refine k _ _ (upd_k hn) (new_lst g hn ?_ (reps_strs fun s hs => ⟨Nat.le_trans (splitS_part hs) s1.1, fun y hy => s1.2 y (splitS_mem hs hy)⟩))
  rw [List.length_map]
  have := splitS_len c x
  omega
end
section
variable {C : Cfg} {G : Gl} {Wx : WX} {k : Kd} {ta tb : TE} {A B : E} {Z : Addr → Prop} {ρ ρ' : List Addr} {O : Nat → Option Addr} {e : En} {m m' : M} {σ : L2.St} {H H' : Hp} {Q : VK}
theorem snd_methS {r : V → List V → Hp → VK → Prop} {o : Op} (ho : Op2 k G (fun x y H Q => r x [y] H Q) o) (ha : Snd C G Wx .bor ta A) (hb : Snd C G Wx .bor tb B) : Snd C G Wx k (L2.tBM G.K "str" r ta (L2.tCons tb L2.tNil)) (.meth .str o A B) := by
  intro Z ρ O e m σ H Q s q
  rw [E.ev] at q
  refine ha Z ρ O e m σ H _ s ?_
  cases ra : A.ev C.cf e m with
  | bad => rw [ra] at q; exact q
  | exc c m' => rw [ra] at q; exact q
  | ok d m' =>
    rw [ra] at q
    simp only [R.bind] at q
    intro v ρ' H1' H' st1' hk1' p
    have st := st1'.trans s (.keep st1'.sr hk1')
    cases d with
    | str z =>
      simp only [isTy] at q
      have ev : v = vstr z := p.repB.str.1
      refine ⟨by rw [ev]; rfl, ?_⟩
      refine hb Z ρ' O e m' σ H' _ st.sr ?_
      cases rb : B.ev C.cf e m' with
      | bad => rw [rb] at q; exact q
      | exc c m2 => rw [rb] at q; exact KE.exc s st q
      | ok d2 m2 =>
        rw [rb] at q
        intro v2 ρ2 H1'' H2 st1'' hk1'' p2
        have st2 := st1''.trans st.sr (.keep st1''.sr hk1'')
        have st3 := st.trans s st2
        replace q : KE G Wx k Z O e σ ρ H Q (appR o [.str z, d2] m2) := q
        obtain ⟨d3, ro, fin⟩ := appR_end s st3 q
        exact ho Z ρ2 O m2 H2 _ d2 d3 v v2 Q st2.sr.gd (st2.repB p.repB) p2 ro fin
    | _ => simp [isTy] at q <;> exact q.elim
end
section
variable {g : Gm} {sc : Scope} {Wx : WX} {a b : Expr} {A B : E} {pos apos : Pos}
theorem se_join (ha : SE g sc Wx .bor a A) (hb : SE g sc Wx .bor b B) (hbase : ∀ env, PySem.attributeBase a ("join" : Str) env (PySem.eval a env) = PySem.eval a env := by intro _; rfl) (hline : (apos.endLine == pos.line) = true := by rfl) (hs : ∀ env, PySem.starEach [b] env = [(false, PySem.eval b env)] := by intro _; rfl) :
    SE g sc Wx .rep (.Call (.Attribute a ("join" : Str) apos) [b] [] pos) (.meth .str .join A B) := by
  obtain ⟨ta, pa, qa⟩ := ha
  obtain ⟨tb, pb, qb⟩ := hb
  refine ⟨L2.tBM g.K "str" (rJoin g.K) ta (L2.tCons tb L2.tNil), fun X o => ?_, snd_methS o_join qa qb⟩
  have h := L2.pe_bm PySem.F.plainAttrs_str PySem.F.slot_str_join PySem.F.type_str_join (r := rJoin X.K) L2.mt_join (pa X o) (pa_any1 (pb X o) (hs _)) (hbase _) (by rw [hs]; rfl) hline (by rw [hs]; rfl) rfl
  rw [o.K] at h
  exact h
theorem se_split (ha : SE g sc Wx .bor a A) (hb : SE g sc Wx .bor b B) (hbase : ∀ env, PySem.attributeBase a ("split" : Str) env (PySem.eval a env) = PySem.eval a env := by intro _; rfl) (hline : (apos.endLine == pos.line) = true := by rfl) (hs : ∀ env, PySem.starEach [b] env = [(false, PySem.eval b env)] := by intro _; rfl) :
    SE g sc Wx .fre (.Call (.Attribute a ("split" : Str) apos) [b] [] pos) (.meth .str .split A B) := by
  obtain ⟨ta, pa, qa⟩ := ha
  obtain ⟨tb, pb, qb⟩ := hb
  refine ⟨L2.tBM g.K "str" rSplit ta (L2.tCons tb L2.tNil), fun X o => ?_, snd_methS o_split qa qb⟩
  have h := L2.pe_bm PySem.F.plainAttrs_str PySem.F.slot_str_split PySem.F.type_str_split (r := rSplit) L2.mt_split (pa X o) (pa_any1 (pb X o) (hs _)) (hbase _) (by rw [hs]; rfl) hline (by rw [hs]; rfl) rfl
  rw [o.K] at h
  exact h
end
/-! ### f-strings -/
section
variable {C : Cfg} {G : Gl} {Wx : WX} {ta : TE} {A : E} {Z : Addr → Prop} {ρ ρ' : List Addr} {O : Nat → Option Addr} {e : En} {m m' : M} {σ : L2.St} {H H' : Hp}
def rFmt : V → Hp → VK → Prop := fun x H1 Q => (∃ y : Str, x = .str y ∧ y.length ≤ PySem.sizeLine ∧ Q (.str y) H1) ∨ ∃ i : Int, x = .int i ∧ i.natAbs.log2 < 1920 ∧ Q (.str (toString i)) H1
theorem o_fstr1 : Op1 .rep G rFmt .fstr1 := by
  intro Z ρ O m H d1 d v1 Q g h1 e k
  replace e : app_fstr1 [d1] = some d := e
  unfold app_fstr1 at e
  split at e <;> rename_i hx <;> first | (simp only [List.cons.injEq, and_true] at hx; subst hx) | cases e
  · split at e <;> cases e
    rename_i i hlt
    simp only [Bool.and_eq_true, decide_eq_true_eq] at hlt
    rw [h1.int]
    obtain ⟨n, rfl⟩ : ∃ n : Nat, i = n := ⟨i.toNat, by omega⟩
    have hn : n < 100 := by omega
    obtain ⟨e1, e2, e3⟩ := strI_ok n hn
    refine .inr ⟨_, rfl, ?_, ?_⟩
    · rcases Nat.eq_zero_or_pos n with z | z
      · rw [z]; decide
      · rw [Int.natAbs_natCast]
        exact Nat.lt_of_le_of_lt (Nat.log2_le_self n) (by omega)
    · refine k _ _ keep_refl (prep ?_)
      rw [Rep]
      refine ⟨?_, Nat.le_trans e2 (by decide), fun c hc => Nat.lt_trans (e3 c hc) (by decide)⟩
      show V.str (Str.ofString (toString (n : Int))) = _
      rw [e1]
      rfl
  · cases e
    obtain ⟨e1, s1⟩ := h1.str
    rw [e1]
    refine .inl ⟨_, rfl, by rw [vstr_len, ← LIM_eq]; exact s1.1, ?_⟩
    refine k _ _ keep_refl (prep ?_)
    rw [Rep]
    exact ⟨rfl, s1⟩
/-- the parts of an f-string -/
inductive SJ (C : Cfg) (G : Gl) (Wx : WX) : List TE → Es → Prop where
  | nil : SJ C G Wx [] .nil
  | cons {t : TE} {A : E} {ts : List TE} {As : Es} (h : Snd C G Wx .bor t A) (r : SJ C G Wx ts As) : SJ C G Wx (t :: ts) (.cons A As)
def KS (G : Gl) (Wx : WX) (Z : Addr → Prop) (O : Nat → Option Addr) (e : En) (σ : L2.St) (ρ : List Addr) (H : Hp) (Q : Str → Hp → Prop) : R (List Nat) → Prop
  | .ok s m' => ∀ ρ' H', Stp G Z O e σ ρ H ρ' m' H' → strOk s → Q (mkS s) H'
  | .exc c m' => ∀ cls dx ρ' H', Stp G Z O e σ ρ H ρ' m' H' → ErrIs G c cls dx → Wx cls dx σ H'
  | .bad => False
theorem mkS_app (x y : List Nat) : mkS x ++ mkS y = mkS (x ++ y) := by
  rw [← mkS_tl (mkS x ++ mkS y), TL.tl_append]
  rfl
theorem snd_js {ts : List TE} {As : Es} (h : SJ C G Wx ts As) : ∀ {acc : List Nat} {Z : Addr → Prop} {ρ : List Addr} {O : Nat → Option Addr} {e : En} {m : M} {σ : L2.St} {H : Hp} {Q : Str → Hp → Prop},
    strOk acc → SR G Z ρ O e m σ H → KS G Wx Z O e σ ρ H Q (As.js C.cf acc e m) → L2.tJs ts (mkS acc) σ H Q := by
  induction h with
  | nil =>
    intro acc Z ρ O e m σ H Q ha s q
    rw [Es.js] at q
    exact q ρ H (.refl s) ha
  | @cons t A ts As h1 r ih =>
    intro acc Z ρ O e m σ H Q ha s q
    rw [Es.js] at q
    refine h1 Z ρ O e m σ H _ s ?_
    cases ra : A.ev C.cf e m with
    | bad => rw [ra] at q; exact q
    | exc c m' => rw [ra] at q; exact q
    | ok d m' =>
      rw [ra] at q
      simp only [R.bind] at q
      intro v ρ' H1' H' st1' hk1' p
      have st := st1'.trans s (.keep st1'.sr hk1')
      cases d with
      | str z =>
        simp only [] at q
        obtain ⟨ev, s1⟩ := p.repB.str
        split at q
        · rename_i hlt
          refine ⟨mkS z, ev, by rw [mkS_app, mkS_len, ← LIM_eq]; exact hlt, ?_⟩
          rw [mkS_app]
          refine ih ⟨hlt, fun c hc => (List.mem_append.mp hc).elim (ha.2 c) (s1.2 c)⟩ st.sr ?_
          cases rb : As.js C.cf (acc ++ z) e m' with
          | bad => rw [rb] at q; exact q
          | exc c m2 => rw [rb] at q; exact fun cls dx ρ2 H2 st2 er => q cls dx ρ2 H2 (st.trans s st2) er
          | ok s2 m2 => rw [rb] at q; exact fun ρ2 H2 st2 ok2 => q ρ2 H2 (st.trans s st2) ok2
        · exact q.elim
      | _ => exact q.elim
theorem snd_jsE {ts : List TE} {As : Es} (h : SJ C G Wx ts As) : Snd C G Wx .rep (fun σ H Q => L2.tJs ts Str.empty σ H fun out H1 => Q (.str out) H1) (.js As) := by
  intro Z ρ O e m σ H Q s q
  rw [E.ev] at q
  refine snd_js (acc := []) h ⟨Nat.zero_le _, fun _ h => nomatch h⟩ s ?_
  cases ra : As.js C.cf [] e m with
  | bad => rw [ra] at q; exact q
  | exc c m' => rw [ra] at q; exact q
  | ok z m' =>
    rw [ra] at q
    exact fun ρ' H' st ok => q (vstr z) ρ' H' H' st keep_refl (prep (by rw [Rep]; exact ⟨rfl, ok⟩))
end
section
variable {g : Gm} {sc : Scope} {Wx : WX} {a b : Expr} {A B : E} {pos apos : Pos}
theorem se_fmt (ha : SE g sc Wx .bor a A) : SE g sc Wx .rep (.FormattedValue a (-1) none pos) (.op .fstr1 (.cons A .nil)) := by
  obtain ⟨ta, pa, qa⟩ := ha
  exact ⟨L2.tFmt ta, fun X o => L2.pe_fmt (pa X o), snd_op1 (r := rFmt) o_fstr1 qa⟩
structure JE (g : Gm) (sc : Scope) (Wx : WX) (es : List Expr) (As : Es) : Prop where
  ex : ∃ ts, (∀ X, Ok g sc Wx X → L2.PJ X es ts) ∧ SJ g.C g.G Wx ts As
theorem je_nil : JE g sc Wx [] .nil := ⟨[], fun _ _ => .nil, .nil⟩
theorem je_cons {es : List Expr} {As : Es} (ha : SE g sc Wx .rep a A) (h : JE g sc Wx es As) : JE g sc Wx (a :: es) (.cons A As) := by
  obtain ⟨ta, pa, qa⟩ := ha
  obtain ⟨ts, pj, sj⟩ := h.ex
  exact ⟨ta :: ts, fun X o => .cons (pa X o) (pj X o), .cons qa.bor sj⟩
theorem se_js {v1 v2 : Expr} {rest : List Expr} {As : Es} (h : JE g sc Wx (v1 :: v2 :: rest) As) : SE g sc Wx .rep (.JoinedStr (v1 :: v2 :: rest) pos) (.js As) := by
  obtain ⟨ts, pj, sj⟩ := h.ex
  exact ⟨_, fun X o => L2.pe_joined (pj X o), snd_jsE sj⟩
theorem se_js1 {v : Expr} (h : SE g sc Wx .rep v A) : SE g sc Wx .rep (.JoinedStr [v] pos) A := by
  obtain ⟨ta, pa, qa⟩ := h
  exact ⟨ta, fun X o => L2.pe_joined1 (pa X o), qa⟩
end
/-! ### str(int), int(text) -/
section
variable {G : Gl} {Z : Addr → Prop} {ρ : List Addr} {O : Nat → Option Addr} {m : M} {H : Hp}
def rStrI : RL := fun xs H Q => ∃ i : Int, xs = [.int i] ∧ i.natAbs.log2 < 1920 ∧ Q (.str (toString i)) H
theorem o_strI : OpC1 .rep G rStrI .str := by
  intro Z ρ O m H d1 d v1 Q g h1 e k
  replace e : app_str [d1] = some d := e
  unfold app_str at e
  split at e <;> rename_i hx <;> first | (simp only [List.cons.injEq, and_true] at hx; subst hx) | cases e
  split at e <;> cases e
  rename_i i hlt
  simp only [Bool.and_eq_true, decide_eq_true_eq] at hlt
  rw [h1.int]
  obtain ⟨n, rfl⟩ : ∃ n : Nat, i = n := ⟨i.toNat, by omega⟩
  have hn : n < 100 := by omega
  obtain ⟨e1, e2, e3⟩ := strI_ok n hn
  refine ⟨_, rfl, ?_, ?_⟩
  · rcases Nat.eq_zero_or_pos n with z | z
    · rw [z]; decide
    · rw [Int.natAbs_natCast]
      exact Nat.lt_of_le_of_lt (Nat.log2_le_self n) (by omega)
  · refine k _ _ keep_refl (prep ?_)
    rw [Rep]
    refine ⟨?_, Nat.le_trans e2 (by decide), fun c hc => Nat.lt_trans (e3 c hc) (by decide)⟩
    show V.str (Str.ofString (toString (n : Int))) = _
    rw [e1]
    rfl
end
section
variable {g : Gm} {sc : Scope} {Wx : WX} {a b : Expr} {A B : E} {p pos : Pos} {x : Str}
theorem se_strI (hx : isBlt g sc x (.type "str")) (ha : SE g sc Wx .bor a A) (hs : ∀ env : PySem.Env, PySem.starEach [a] env = [(false, PySem.eval a env)] := by intro _; rfl) : SE g sc Wx .rep (.Call (.Name x p) [a] [] pos) (.op .str (.cons A .nil)) := se_cT1 (r := rStrI) (fun X o => L2.call_str_int) o_strI hx ha hs
end
end Rf

/-! RSet: sorted(set(x)), list(range(..)), tuple(range(..)), tuple.index on a constant. -/
namespace Rf
theorem nodup_le : ∀ {l k : List Int}, l.Nodup → (∀ x, x ∈ l → x ∈ k) → l.length ≤ k.length
  | [], _, _, _ => Nat.zero_le _
  | x :: l, k, nd, h => by
    rw [List.nodup_cons] at nd
    have hx := h x (.head _)
    have h2 : l.length ≤ (k.erase x).length := nodup_le nd.2 fun y hy => by
      have hne : y ≠ x := fun e => nd.1 (e ▸ hy)
      exact (List.mem_erase_of_ne hne).mpr (h y (.tail _ hy))
    rw [List.length_erase_of_mem hx] at h2
    have := List.length_pos_of_mem hx
    rw [List.length_cons]
    omega
end Rf
namespace L2
open PySem PySem.W PyProof.Rows
def rSetT (K : PySem.W.Frag) (w : World) : List V → Hp → VK → Prop := fun xs H Q => ∃ (p : Addr) (ns : List Int), xs = [.ref p] ∧ SqT K H p (ns.map V.int) ∧ ns.length ≤ 1000 ∧ ∀ q c, H q = none → (∀ l : List Int, (∀ k, k ∈ ns → k ∈ l) → c ≤ l.length) → Q (.ref q) (upd H q (SetO w q (fun j => decide (j ∈ ns)) c))
theorem cr_setT {X : Cx} (hc : X.calm = true) : CallR X (.type "set") (rSetT X.K X.w) := by
  intro pins s σ H xs us Q I r h
  obtain ⟨p0, ns, rfl, hq, hl, q⟩ := h
  cases r with
  | cons r rr =>
    cases rr
    cases r
    obtain ⟨its, rv, pt, hz⟩ := I.tuple hq
    have hi : IntsAre its.toArray.toList ns := ints_of_vals rv
    refine call_set_tupI ns (I.ok.hd hc) (show s.heap.IsTuple p0 its.toArray from pt) hi (by unfold scanBound; omega) fun h' tk c R1 hcn k => ?_
    have hcn2 : ∀ l : List Int, (∀ k, k ∈ ns → k ∈ l) → c ≤ l.length := fun l hl => by
      obtain ⟨o, es, ep, t, ho, hex, hdt, g, nd, hm2, hb, hf, hn, hr, hl2⟩ := R1
      have h1 : (es.toList.map keyOf).length ≤ l.length := Rf.nodup_le nd fun k hk => hl k (of_decide_eq_true ((hm2 k).mpr hk))
      rw [List.length_map, Array.length_toList] at h1
      omega
    exact ⟨.ref _, upd H s.heap.objs.size (SetO X.w s.heap.objs.size (fun j => decide (j ∈ ns)) c), I.laid (t' := tk) k (Nat.le_refl _) (setO_new R1), rfl, q _ c (I.hok.fresh (Nat.le_refl _)) hcn2⟩
end L2
namespace Rf
open PySem (Str Addr Value Pos Expr Stmt Scope Program World Heap Shared CmpOp Operator UnaryOp)
open L2 (V Hp HO SqL SqT Rd upd upd_same upd_ne VK XK TE TT TA TS TG TI WX Cx Ends OpR R2 rI rI0 PE PT PW PA PS PSs PG PI)
theorem insertU_mem {x k : Int} : ∀ {l : List Int}, k ∈ insertU x l ↔ k = x ∨ k ∈ l
  | [] => by simp [insertU]
  | y :: r => by
    rw [insertU]
    split
    · simp
    · split
      · rename_i h; subst h; simp
      · simp only [List.mem_cons, insertU_mem (l := r)]
        constructor
        · rintro (h | h | h) <;> simp [h]
        · rintro (h | h | h) <;> simp [h]
theorem sortU_mem {k : Int} : ∀ {l : List Int}, k ∈ sortU l ↔ k ∈ l
  | [] => Iff.rfl
  | x :: r => by rw [sortU, insertU_mem, sortU_mem (l := r), List.mem_cons]
theorem insertU_srt {x : Int} : ∀ {l : List Int}, l.Pairwise (· < ·) → (insertU x l).Pairwise (· < ·)
  | [], _ => by simp [insertU]
  | y :: r, h => by
    rw [List.pairwise_cons] at h
    rw [insertU]
    split
    · rename_i hxy
      rw [List.pairwise_cons, List.pairwise_cons]
      refine ⟨fun z hz => ?_, h⟩
      rcases List.mem_cons.mp hz with q | q
      · rw [q]; exact hxy
      · exact Int.lt_trans hxy (h.1 z q)
    · split
      · rename_i hxy
        subst hxy
        rw [List.pairwise_cons]
        exact h
      · rw [List.pairwise_cons]
        refine ⟨fun z hz => ?_, insertU_srt h.2⟩
        rcases insertU_mem.mp hz with q | q
        · rw [q]; omega
        · exact h.1 z q
theorem sortU_srt : ∀ l : List Int, (sortU l).Pairwise (· < ·)
  | [] => List.Pairwise.nil
  | x :: r => insertU_srt (sortU_srt r)
theorem lt_uniq : ∀ {l k : List Int}, l.Pairwise (· < ·) → k.Pairwise (· < ·) → (∀ x, x ∈ l ↔ x ∈ k) → l = k
  | [], [], _, _, _ => rfl
  | [], y :: k, _, _, h => absurd ((h y).mpr (.head _)) (by simp)
  | x :: l, [], _, _, h => absurd ((h x).mp (.head _)) (by simp)
  | x :: l, y :: k, hl, hk, h => by
    rw [List.pairwise_cons] at hl hk
    have exy : x = y := by
      rcases List.mem_cons.mp ((h x).mp (.head _)) with q | q
      · exact q
      · rcases List.mem_cons.mp ((h y).mpr (.head _)) with q2 | q2
        · exact q2.symm
        · have := hk.1 x q; have := hl.1 y q2; omega
    subst exy
    congr 1
    refine lt_uniq hl.2 hk.2 fun z => ⟨fun hz => ?_, fun hz => ?_⟩
    · rcases List.mem_cons.mp ((h z).mp (.tail _ hz)) with q | q
      · have := hl.1 z hz; omega
      · exact q
    · rcases List.mem_cons.mp ((h z).mpr (.tail _ hz)) with q | q
      · have := hk.1 z hz; omega
      · exact q
theorem insertU_len {x : Int} : ∀ {l : List Int}, (insertU x l).length ≤ l.length + 1
  | [] => Nat.le_refl _
  | y :: r => by
    rw [insertU]
    split
    · simp
    · split
      · simp
      · have := insertU_len (x := x) (l := r)
        simp; omega
theorem sortU_len : ∀ {l : List Int}, (sortU l).length ≤ l.length
  | [] => Nat.le_refl _
  | x :: r => by
    have := insertU_len (x := x) (l := sortU r)
    have := sortU_len (l := r)
    rw [sortU, List.length_cons]
    omega
section
variable {G : Gl} {Z : Addr → Prop} {ρ : List Addr} {O : Nat → Option Addr} {m : M} {H : Hp}
theorem o_sortset {w : World} : Op1 .fre G (fun x H Q => L2.rSetT G.K w [x] H fun y H2 => L2.rSortedSet w [y] H2 Q) .sortset := by
  intro Z ρ O m H d1 d v1 Q g h1 e k
  replace e : app_sortset [d1] = some d := e
  unfold app_sortset at e
  split at e <;> rename_i hx <;> first | (simp only [List.cons.injEq, and_true] at hx; subst hx) | cases e
  obtain ⟨is, e2, e3⟩ := Option.bind_eq_some_iff.mp e
  split at e3 <;> cases e3
  rename_i hlt
  obtain ⟨a, vs, e1, q1, z1, r1⟩ := h1.tup
  obtain ⟨q2, _⟩ := r1.ints e2
  subst q2
  rw [e1]
  refine ⟨a, is, rfl, q1.sq, hlt.1, fun q c hq hc => ⟨q, _, c, rfl, upd_same, Nat.lt_of_le_of_lt (hc (sortU is) fun k hk => sortU_mem.mpr hk) hlt.2, fun ns p hs hm hl hp => ?_⟩⟩
  have ee : ns = sortU is := lt_uniq hs (sortU_srt is) fun x => by rw [hm x, decide_eq_true_eq, sortU_mem]
  subst ee
  have hpq : p ≠ q := fun z => by rw [z, upd_same] at hp; cases hp
  have hp0 : H p = none := by rwa [upd_ne hpq] at hp
  have nw : ¬ Wr Z ρ O p := fun q => (g.2 p q).some hp0
  have hz : ((sortU is).map D.int).length ≤ LIM := by
    rw [List.length_map]
    exact Nat.le_trans (Nat.le_of_lt hlt.2) (by decide)
  refine k _ _ (fun b u hb => upd_k hp b u (upd_k hq b u hb)) ⟨?_, fun ds' e => ?_⟩
  · rw [Rep]
    exact ⟨p, _, rfl, ⟨upd_same, nw⟩, hz, reps_ints _⟩
  · cases e
    exact ⟨p, _, rfl, hp0, upd_same, hz, reps_ints _⟩
end
section
variable {g : Gm} {sc : Scope} {Wx : WX} {a b : Expr} {A B : E} {p p2 pos pos2 : Pos} {x y : Str}
theorem se_sortset (hx : isBlt g sc x (.builtin "sorted")) (hy : isBlt g sc y (.type "set")) (ha : SE g sc Wx .bor a A) (hs : ∀ env : PySem.Env, PySem.starEach [a] env = [(false, PySem.eval a env)] := by intro _; rfl)
    (hs2 : ∀ env : PySem.Env, PySem.starEach [.Call (.Name y p2) [a] [] pos2] env = [(false, PySem.eval (.Call (.Name y p2) [a] [] pos2) env)] := by intro _; rfl) :
    SE g sc Wx .fre (.Call (.Name x p) [.Call (.Name y p2) [a] [] pos2] [] pos) (.op .sortset (.cons A .nil)) := by
  obtain ⟨ta, pa, qa⟩ := ha
  refine ⟨L2.tCB (L2.rSortedSet g.w) (L2.tCons (L2.tCB (L2.rSetT g.K g.w) (L2.tCons ta L2.tNil)) L2.tNil), fun X ok => ?_, ?_⟩
  · have i1 := L2.pe_callTy (pos := pos2) (p := p2) (L2.cr_setT ok.calm) (ok.gl hy.1) (ok.mgn hy.2.1) hy.2.2.1 (pa_any1 (pa X ok) (hs _)) hy.2.2.2.1 hy.2.2.2.2 (hs _) rfl
    have i2 := L2.pe_callB (pos := pos) (p := p) (L2.cr_sortedSet ok.calm) (ok.gl hx.1) (ok.mgn hx.2.1) hx.2.2.1 (pa_any1 i1 (hs2 _)) hx.2.2.2.1 hx.2.2.2.2 (hs2 _) rfl
    rw [ok.w, ok.K] at i2
    exact i2
  · exact snd_op1 (r := fun x H Q => L2.rSetT g.K g.w [x] H fun y H2 => L2.rSortedSet g.w [y] H2 Q) o_sortset qa
end
/-! ### list(range(..)), tuple(range(..)) -/
theorem rgV_rangeL {a b : Int} : L2.rgV a b = ((List.range (b - a).toNat).map fun (k : Nat) => (a + (k : Int) * 1)).map V.int := by
  unfold L2.rgV
  rw [List.map_map]
  exact List.map_congr_left fun k _ => by simp
theorem rangeL_ints {a : Int} {n : Nat} : rangeL a n 1 = ((List.range n).map fun (k : Nat) => (a + (k : Int) * 1)).map D.int := by
  unfold rangeL
  rw [List.map_map]
  rfl
theorem small62_iff {i : Int} (h : small62 i = true) : -(2 ^ 62) ≤ i ∧ i < 2 ^ 62 := by
  unfold small62 at h
  simp only [Bool.and_eq_true, decide_eq_true_eq] at h
  omega
section
variable {G : Gl} {Z : Addr → Prop} {ρ : List Addr} {O : Nat → Option Addr} {m : M} {H : Hp}
/-- a range laid out as a list, as a tuple -/
theorem new_rgL {a b : Int} {p : Addr} (g : Gd G Z ρ O m H) (hn : H p = none) (hl : (b - a).toNat ≤ LIM) : PostV .fre G H (upd H p (.lst (L2.rgV a b))) (Wr Z ρ O) ρ (.lst (rangeL a (b - a).toNat 1)) (.ref p) := by
  rw [rgV_rangeL, rangeL_ints]
  exact new_lst g hn (by rw [List.length_map, List.length_map, List.length_range]; exact hl) (reps_ints _)
theorem new_rgT {a b : Int} {p : Addr} (g : Gd G Z ρ O m H) (hn : H p = none) (hl : (b - a).toNat ≤ LIM) : Rep G (upd H p (.tup (L2.rgV a b))) (Wr Z ρ O) ρ (.tup (rangeL a (b - a).toNat 1)) (.ref p) := by
  rw [rgV_rangeL, rangeL_ints]
  exact new_tup g hn (by rw [List.length_map, List.length_map, List.length_range]; exact hl) (reps_ints _)
end
section
variable {C : Cfg} {G : Gl} {Wx : WX} {ta tb : TE} {A B : E}
/-- one operator behind another -/
theorem ev_op1op (cf : CF) (o : Op) (E1 : E) (e : En) (m : M) : (E.op o (.cons E1 .nil)).ev cf e m = (E1.ev cf e m).bind fun d m' => appR o [d] m' := ev_op1 cf o E1 e m
theorem snd_listR1 (ha : Snd C G Wx .bor ta A) : Snd C G Wx .fre (L2.tLstRg (L2.tRg1 ta)) (.op .listR (.cons (.op .range1 (.cons A .nil)) .nil)) := by
  intro Z ρ O e m σ H Q s q
  rw [ev_op1, ev_op1] at q
  refine ha Z ρ O e m σ H _ s ?_
  cases ra : A.ev C.cf e m with
  | bad => rw [ra] at q; exact q
  | exc c m' => rw [ra] at q; exact q
  | ok d m' =>
    rw [ra] at q
    simp only [R.bind] at q
    intro v ρ' H1' H' st1' hk1' p
    have st := st1'.trans s (.keep st1'.sr hk1')
    unfold appR at q
    cases ro : Op.range1.app [d] m' with
    | none => rw [ro] at q; exact q.elim
    | some d2 =>
      rw [ro] at q
      replace ro : app_range1 [d] = some d2 := ro
      unfold app_range1 at ro
      split at ro <;> rename_i hx <;> first | (simp only [List.cons.injEq, and_true] at hx; subst hx) | cases ro
      split at ro <;> cases ro
      rename_i j hj
      simp only [Bool.and_eq_true, decide_eq_true_eq] at hj
      have b := small62_iff hj.1
      rw [p.repB.int]
      refine ⟨j, rfl, ⟨by omega, by omega, b.1, b.2, by rw [Int.sub_zero]; exact hj.2⟩, fun q' hq => ?_⟩
      have hz : (j - 0).toNat = j.toNat := by omega
      refine q (.ref q') ρ' H' _ st (upd_k hq) ?_
      rw [← hz]
      exact new_rgL st.sr.gd hq (by rw [hz]; exact hj.2)
theorem snd_tupR1 (ha : Snd C G Wx .bor ta A) : Snd C G Wx .rep (L2.tTupRg (L2.tRg1 ta)) (.op .tupR (.cons (.op .range1 (.cons A .nil)) .nil)) := by
  intro Z ρ O e m σ H Q s q
  rw [ev_op1, ev_op1] at q
  refine ha Z ρ O e m σ H _ s ?_
  cases ra : A.ev C.cf e m with
  | bad => rw [ra] at q; exact q
  | exc c m' => rw [ra] at q; exact q
  | ok d m' =>
    rw [ra] at q
    simp only [R.bind] at q
    intro v ρ' H1' H' st1' hk1' p
    have st := st1'.trans s (.keep st1'.sr hk1')
    unfold appR at q
    cases ro : Op.range1.app [d] m' with
    | none => rw [ro] at q; exact q.elim
    | some d2 =>
      rw [ro] at q
      replace ro : app_range1 [d] = some d2 := ro
      unfold app_range1 at ro
      split at ro <;> rename_i hx <;> first | (simp only [List.cons.injEq, and_true] at hx; subst hx) | cases ro
      split at ro <;> cases ro
      rename_i j hj
      simp only [Bool.and_eq_true, decide_eq_true_eq] at hj
      have b := small62_iff hj.1
      rw [p.repB.int]
      refine ⟨j, rfl, ⟨by omega, by omega, b.1, b.2, by rw [Int.sub_zero]; exact hj.2⟩, fun q' hq => ?_⟩
      have hz : (j - 0).toNat = j.toNat := by omega
      refine q (.ref q') ρ' H' _ st (upd_k hq) (prep ?_)
      rw [← hz]
      exact new_rgT st.sr.gd hq (by rw [hz]; exact hj.2)
theorem snd_tupR2 (ha : Snd C G Wx .bor ta A) (hb : Snd C G Wx .bor tb B) : Snd C G Wx .rep (L2.tTupRg (L2.tRg2 ta tb)) (.op .tupR (.cons (.op .range2 (.cons A (.cons B .nil))) .nil)) := by
  intro Z ρ O e m σ H Q s q
  rw [ev_op1, ev_op2] at q
  refine ha Z ρ O e m σ H _ s ?_
  cases ra : A.ev C.cf e m with
  | bad => rw [ra] at q; exact q
  | exc c m' => rw [ra] at q; exact q
  | ok d m' =>
    rw [ra] at q
    simp only [R.bind] at q
    intro v ρ' H1' H' st1' hk1' p
    have st := st1'.trans s (.keep st1'.sr hk1')
    refine hb Z ρ' O e m' σ H' _ st.sr ?_
    cases rb : B.ev C.cf e m' with
    | bad => rw [rb] at q; exact q
    | exc c m2 => rw [rb] at q; exact KE.exc s st q
    | ok d2 m2 =>
      rw [rb] at q
      simp only [] at q
      intro v2 ρ2 H1'' H2 st1'' hk1'' p2
      have st2 := st1''.trans st.sr (.keep st1''.sr hk1'')
      have st3 := st.trans s st2
      unfold appR at q
      cases ro : Op.range2.app [d, d2] m2 with
      | none => rw [ro] at q; exact q.elim
      | some d3 =>
        rw [ro] at q
        replace ro : app_range2 [d, d2] = some d3 := ro
        unfold app_range2 at ro
        split at ro <;> rename_i hx <;> first | (simp only [List.cons.injEq, and_true] at hx; obtain ⟨rfl, rfl⟩ := hx) | cases ro
        split at ro <;> cases ro
        rename_i i j hj
        simp only [Bool.and_eq_true, decide_eq_true_eq] at hj
        have b1 := small62_iff hj.1.1
        have b2 := small62_iff hj.1.2
        rw [p.repB.int, p2.repB.int]
        refine ⟨i, j, rfl, rfl, ⟨b1.1, b1.2, b2.1, b2.2, hj.2⟩, fun q' hq => ?_⟩
        exact q (.ref q') ρ2 H2 _ st3 (upd_k hq) (prep (new_rgT st3.sr.gd hq hj.2))
end
section
variable {g : Gm} {sc : Scope} {Wx : WX} {a b : Expr} {A B : E} {p p2 pos pos2 : Pos}
theorem se_listR1 (hx : isBlt g sc "list" (.type "list")) (hy : isBlt g sc "range" (.type "range")) (ha : SE g sc Wx .bor a A) (hs : ∀ env : PySem.Env, PySem.starEach [a] env = [(false, PySem.eval a env)] := by intro _; rfl)
    (hs2 : ∀ env : PySem.Env, PySem.starEach [.Call (.Name "range" p2) [a] [] pos2] env = [(false, PySem.eval (.Call (.Name "range" p2) [a] [] pos2) env)] := by intro _; rfl) :
    SE g sc Wx .fre (.Call (.Name "list" p) [.Call (.Name "range" p2) [a] [] pos2] [] pos) (.op .listR (.cons (.op .range1 (.cons A .nil)) .nil)) := by
  obtain ⟨ta, pa, qa⟩ := ha
  exact ⟨_, fun X ok => L2.pe_listRg ok.calm (ok.gl hx.1) (ok.mgn hx.2.1) (L2.prg_1 (ok.gl hy.1) (ok.mgn hy.2.1) (pa X ok) (hs _)) (hs2 _), snd_listR1 qa⟩
theorem se_tupR1 (hx : isBlt g sc "tuple" (.type "tuple")) (hy : isBlt g sc "range" (.type "range")) (ha : SE g sc Wx .bor a A) (hs : ∀ env : PySem.Env, PySem.starEach [a] env = [(false, PySem.eval a env)] := by intro _; rfl)
    (hs2 : ∀ env : PySem.Env, PySem.starEach [.Call (.Name "range" p2) [a] [] pos2] env = [(false, PySem.eval (.Call (.Name "range" p2) [a] [] pos2) env)] := by intro _; rfl) :
    SE g sc Wx .rep (.Call (.Name "tuple" p) [.Call (.Name "range" p2) [a] [] pos2] [] pos) (.op .tupR (.cons (.op .range1 (.cons A .nil)) .nil)) := by
  obtain ⟨ta, pa, qa⟩ := ha
  exact ⟨_, fun X ok => L2.pe_tupRg ok.calm (ok.gl hx.1) (ok.mgn hx.2.1) (L2.prg_1 (ok.gl hy.1) (ok.mgn hy.2.1) (pa X ok) (hs _)) (hs2 _), snd_tupR1 qa⟩
theorem se_tupR2 (hx : isBlt g sc "tuple" (.type "tuple")) (hy : isBlt g sc "range" (.type "range")) (ha : SE g sc Wx .bor a A) (hb : SE g sc Wx .bor b B) (hs : ∀ env : PySem.Env, PySem.starEach [a, b] env = [(false, PySem.eval a env), (false, PySem.eval b env)] := by intro _; rfl)
    (hsb : ∀ env : PySem.Env, PySem.starEach [b] env = [(false, PySem.eval b env)] := by intro _; rfl)
    (hs2 : ∀ env : PySem.Env, PySem.starEach [.Call (.Name "range" p2) [a, b] [] pos2] env = [(false, PySem.eval (.Call (.Name "range" p2) [a, b] [] pos2) env)] := by intro _; rfl) :
    SE g sc Wx .rep (.Call (.Name "tuple" p) [.Call (.Name "range" p2) [a, b] [] pos2] [] pos) (.op .tupR (.cons (.op .range2 (.cons A (.cons B .nil))) .nil)) := by
  obtain ⟨ta, pa, qa⟩ := ha
  obtain ⟨tb, pb, qb⟩ := hb
  exact ⟨_, fun X ok => L2.pe_tupRg ok.calm (ok.gl hx.1) (ok.mgn hx.2.1) (L2.prg_2 (ok.gl hy.1) (ok.mgn hy.2.1) (pa X ok) (pb X ok) (by rw [hs, hsb]) (hsb _) (by rw [hsb]; rfl)) (hs2 _), snd_tupR2 qa qb⟩
end
end Rf

/-! RTry: try: .. except X: return None. -/
namespace Rf
open PySem (Str Addr Value Pos Expr Stmt Scope Program World Heap Shared CmpOp Operator UnaryOp ExceptHandler)
open L2 (V Hp HO SqL SqT Rd upd upd_same upd_ne VK XK TE TT TA TS TG TGs TI WX Cx Ends PE PT PW PA PS PSs PG PGs PI It Inv)
section
variable {g : Gm} {sc : Scope} {Wx : WX} {W : Nat} {sts : List Stmt} {ss : Ss} {pos p1 p2 p3 p4 : Pos} {x : Str} {j : Nat}
/-- how a class stands to those that are raised -/
structure CatOk (g : Gm) (n : Nat) (x : Str) : Prop where
  ex : ∃ C : Addr, g.mg x = some (.ref C) ∧ ∀ c y a, g.C.nm.er c = some y → g.mg y = some (.ref a) → PySem.W.exmOne g.K (.ref a) (.ref C) = some (decide (c = n))
theorem ss_tryN {n : Nat} (hb : ∀ Wx', SSs g sc Wx' W sts ss) (h : CatOk g n x) (hg : sc.names.lookup x = some .globalImplicit) (hdb : (x == ("__debug__" : Str)) = false := by decide) :
    SS g sc Wx W (.Try sts [.ExceptHandler (some (.Name x p1)) none [.Return (some (.Constant .none j p2)) p3] p4] [] [] pos) (.tryN ss n) := by
  obtain ⟨C, mC, hx⟩ := h.ex
  let tb : WX → TS := fun Wx' => (hb Wx').choose
  let ts : Addr → Value → Option Addr → TS := fun _ _ _ D _ H => D.rt .non H
  refine ⟨fun D σ H => tb (L2.wMany g.K Wx D [(.ref C, ts)]) D σ H, fun X o ob => ?_, ?_⟩
  · have hs : L2N.HdsOk X [.ExceptHandler (some (.Name x p1)) none [.Return (some (.Constant .none j p2)) p3] p4] [(.ref C, ts)] := by
      refine .cons ⟨o.gl hg, hdb, .inl (by rw [o.mg]; exact mC)⟩ (fun a oe cls d pn hz hv => ?_) .nil
      exact L2.pss_one (L2.ps_ret L2.pe_non)
    have t := L2N.ps_try_many (pos := pos) ob.st ob.fr o.tk (tb := tb) (fun W' pn xe tk ps => (hb W').choose_spec.1 (X.tr pn xe) { pr := o.pr, w := o.w, K := o.K, mg := o.mg, bs := o.bs, N := o.N, sc := o.sc, calm := o.calm, room := o.room, tk := tk, fn := o.fn, lam := o.lam, calls := o.calls } ⟨ps, ob.st, ob.fr⟩) hs
    rw [o.K] at t
    exact t
  · intro Z b ρ O e m σ H D s q
    refine (hb _).choose_spec.2 Z b ρ O e m σ H D s ?_
    rw [S.ex1] at q
    cases r : ss.exs W g.C.cf e m with
    | nx e' m' => rw [r] at q; exact q
    | rt d m' => rw [r] at q; exact q
    | bad => rw [r] at q; exact q
    | exc c e' m' =>
      rw [r] at q
      intro cls dx ρ' σ' H' st er
      obtain ⟨rfl, y, a, e1, e2, rfl⟩ := er
      refine ⟨decide (c = n), hx c y a e1 e2, fun hd a' _ => ?_, fun hd => ?_⟩
      · simp only [decide_eq_true_eq] at hd
        simp only [hd, if_true] at q
        exact q .non ρ' H' st (by rw [Rep])
      · simp only [decide_eq_false_iff_not] at hd
        simp only [hd, if_false] at q
        exact q (.ref a) none ρ' σ' H' st ⟨rfl, y, a, e1, e2, rfl⟩
end
end Rf

/-! RLaw: from the head's facts to the law's promise. -/
namespace Rf
open PySem (Str Addr Value Pos Expr Stmt Scope Program World Heap Shared CmpOp Operator UnaryOp Obj FuncData Arguments Around Env)
open L2 (V Hp HO SqL SqT Rd upd upd_same upd_ne VK XK TE TT TA TS TG TGs TI WX Cx Ends PE PT PW PA PS PSs PG PGs PI It Inv)
/-- the facts that the head tells: functions, built-ins' names, numbers, error classes, plain globals -/
def faOf (fl bl : List Str) (cs : List (Str × Int)) (ex : List Str) : List He.Fa := fl.map .glo ++ (bl.map .free ++ (cs.map (fun q => .int q.1 q.2) ++ (ex.map .glo ++ ex.map .exc)))
section
variable {fl bl : List Str} {cs : List (Str × Int)} {ex : List Str} {fn : List He.DefD} {K : PySem.W.Frag} {h : Heap} {mg : Str → Option Value}
theorem glo_fl (c : He.SaysD (faOf fl bl cs ex) fn K) (X : K.In h) (G : h.Ns PySem.mainGlobals mg) {x : Str} (hx : x ∈ fl) : mg x = some (.ref (He.ga K x)) :=
  He.glo_ok X G (c.facts (List.mem_append_left _ (List.mem_map.mpr ⟨x, hx, rfl⟩)))
theorem free_bl (c : He.SaysD (faOf fl bl cs ex) fn K) (X : K.In h) (G : h.Ns PySem.mainGlobals mg) {x : Str} (hx : x ∈ bl) : mg x = none :=
  He.free_ok X G (c.facts (List.mem_append_right _ (List.mem_append_left _ (List.mem_map.mpr ⟨x, hx, rfl⟩))))
theorem int_cs (c : He.SaysD (faOf fl bl cs ex) fn K) (X : K.In h) (G : h.Ns PySem.mainGlobals mg) {q : Str × Int} (hx : q ∈ cs) : ∃ t, mg q.1 = some (.int q.2 t) :=
  He.int_ok X G (c.facts (List.mem_append_right _ (List.mem_append_right _ (List.mem_append_left _ (List.mem_map.mpr ⟨q, hx, rfl⟩)))))
theorem glo_ex (c : He.SaysD (faOf fl bl cs ex) fn K) (X : K.In h) (G : h.Ns PySem.mainGlobals mg) {x : Str} (hx : x ∈ ex) : mg x = some (.ref (He.ga K x)) :=
  He.glo_ok X G (c.facts (List.mem_append_right _ (List.mem_append_right _ (List.mem_append_right _ (List.mem_append_left _ (List.mem_map.mpr ⟨x, hx, rfl⟩))))))
theorem exc_ex (c : He.SaysD (faOf fl bl cs ex) fn K) {x : Str} (hx : x ∈ ex) : PySem.W.excIn K (He.ga K x) He.veBase "ValueError.__new__" = true ∧ PySem.W.keepIn K (.ref (He.ga K x)) = true ∧ PySem.W.subIn K (.ref (He.ga K x)) (.type "BaseException") = some true ∧ PySem.W.typeIn K (.ref (He.ga K x)) = some (.type "type") := He.exc_ok (c.facts (f := .exc x) (List.mem_append_right _ (List.mem_append_right _ (List.mem_append_right _ (List.mem_append_right _ (List.mem_map.mpr ⟨x, hx, rfl⟩))))))
theorem tf_of {er : Nat → Option Str} (c : He.SaysD (faOf fl bl cs ex) fn K) (X : K.In h) (G : h.Ns PySem.mainGlobals mg) (her : ∀ n x, er n = some x → x ∈ ex) : TF K mg bl fl cs er where
  fns := fun x hx => ⟨_, glo_fl c X G (by simpa using hx)⟩
  blt := fun x hx => free_bl c X G (by simpa using hx)
  int := fun q hq => int_cs c X G hq
  err := fun n x hx => by
    obtain ⟨h1, h2, h3, h4⟩ := exc_ex c (her n x hx)
    exact ⟨_, _, "ValueError", _, _, PySem.F.excBase_ValueError, h1, glo_ex c X G (her n x hx), h2, h3, h4⟩
end
/-! ### the classes of `_law_error` -/
def erName (n : Nat) : Str := ((erTab.find? fun t => t.1 == n).map (·.2.1)).getD ""
def adOf (K : PySem.W.Frag) (n : Nat) : Addr := He.ga K (erName n)
def excB (K : PySem.W.Frag) (D : Addr) : Bool := decide (PySem.W.findIn K (.ref D) "__getattribute__" = some (some (.builtin "BaseException.__getattribute__"))) && (decide (PySem.W.findIn K (.ref D) "__getattr__" = some none) && (decide (PySem.W.subIn K (.ref D) (.type "BaseException") = some true) && (PySem.W.hasDictIn K D &&
  (decide (PySem.W.findIn K (.ref D) "__class__" = some (some (.builtin "object.__class__"))) && (decide (PySem.W.specialIn K (.builtin "object.__class__") "__get__" = some (some (.builtin "getset_descriptor.__get__"))) && (decide (PySem.W.takesIn K (.builtin "object.__class__") = some true) && decide (PySem.W.mroIn K D (.type "object") = some true)))))))
theorem excB_ok {K : PySem.W.Frag} {D : Addr} (h : excB K D = true) : L2.ExcC K D := by
  unfold excB at h
  simp only [Bool.and_eq_true, decide_eq_true_eq] at h
  obtain ⟨h1, h2, h3, h4, h5, h6, h7, h8⟩ := h
  exact ⟨h1, h2, h3, h4, h5, h6, h7, h8⟩
def errB (K : PySem.W.Frag) : Bool := (List.range 21).all fun i => excB K (adOf K (i + 1)) && (decide (PySem.W.exmOne K (.ref (adOf K (i + 1))) (.ref (He.ga K "StoreError")) = some true) && (List.range 22).all fun j => decide (PySem.W.kitOne K (.ref (adOf K (i + 1))) (.ref (adOf K (j + 1))) = some (decide (i = j))))
theorem erF_of {K : PySem.W.Frag} {mg : Str → Option Value} {er : Nat → Option Str} (hse : mg "StoreError" = some (.ref (He.ga K "StoreError"))) (hg : ∀ t ∈ erTab, mg t.2.1 = some (.ref (He.ga K t.2.1))) (hb : errB K = true)
    (her : ∀ n x, er n = some x → 1 ≤ n ∧ n ≤ 21 ∧ ∃ w, (n, x, w) ∈ erTab) : ErF K mg er (adOf K) (He.ga K "StoreError") := by
  have key : ∀ n, 1 ≤ n → n ≤ 21 → excB K (adOf K n) = true ∧ PySem.W.exmOne K (.ref (adOf K n)) (.ref (He.ga K "StoreError")) = some true ∧ ∀ m, 1 ≤ m → m ≤ 22 → PySem.W.kitOne K (.ref (adOf K n)) (.ref (adOf K m)) = some (decide (n = m)) := fun n h1 h2 => by
    unfold errB at hb
    rw [List.all_eq_true] at hb
    have e : n - 1 + 1 = n := by omega
    have q := hb (n - 1) (List.mem_range.mpr (by omega))
    rw [e, Bool.and_eq_true, Bool.and_eq_true, decide_eq_true_eq, List.all_eq_true] at q
    refine ⟨q.1, q.2.1, fun m m1 m2 => ?_⟩
    have q2 := of_decide_eq_true (q.2.2 (m - 1) (List.mem_range.mpr (by omega)))
    have e2 : m - 1 + 1 = m := by omega
    rw [e2] at q2
    rw [q2]
    have e3 : (n - 1 = m - 1) ↔ n = m := by omega
    simp only [e3]
  have nm : ∀ t ∈ erTab, erName t.1 = t.2.1 := by decide +kernel
  refine ⟨hse, fun n x w hm => ?_, fun n h1 h2 => excB_ok (key n h1 h2).1, fun n h1 h2 => (key n h1 h2).2.1, fun n m h1 h2 h3 h4 => (key n h1 h2).2.2 m h3 h4, her⟩
  have e := nm _ hm
  show mg x = some (.ref (He.ga K (erName n)))
  rw [show erName n = x from e]
  exact hg _ hm
/-! ### a def -/
theorem def_fn {T : Txt} {k n : Nat} {x : Str} {f : Addr} {fd : FuncData} {N' ps : List Str} {nd' : N'.Nodup} {params : Arguments} {body : List Stmt} {scope : Scope} {fn : Fn} {lm' : Option (Addr × Str)}
    (F : L2.FunD T.K x x params body scope [] [] f fd) (S : L2.FnScope N' ps scope) (hp : T.pr n = some fn) (hpl : fn.params = ps.length) (hsl : fn.slots = N'.length) (hc : ∀ c q, lm' = some (c, q) → fd.code = .ref c ∧ q = x ++ ".<locals>.")
    (ih : ∀ n x, T.ids n = true → T.nm.fn n = some x → CallOk (T.gm k N' nd' lm') n x) (hbd : ∀ Wx, SSs (T.gm k N' nd' lm') scope Wx T.W body fn.body) :
    L2.FnOk T.P T.w T.K T.mg T.base (L2N.CX T.P T.w) (3 * (k + 1)) f fd ps (spF (run T.W T.pr (k + 1)) T.G n ps.length) := by
  have e3 : 3 * (k + 1) = (3 * k + 2) + 1 := by omega
  rw [e3]
  refine okC (N := N') F S (fun vs H Q E h => h.1) fun cdv A outer s H vs Q E hlk hr hsp => ?_
  obtain ⟨hvl, Z, ρ, ds, m, mr, r, kf⟩ := hsp
  obtain ⟨t, pt, qt⟩ := hbd (fun cls d _ H => E cls d H)
  obtain ⟨oc, od, osl, lk, hcode⟩ := hlk
  have ok : Ok (T.gm k N' nd' lm') scope (fun cls d _ H => E cls d H) (L2.cxOf (L2N.CX T.P T.w) T.P T.w T.K T.mg T.base N' x scope f cdv A outer s H E) :=
    { pr := rfl, w := rfl, K := rfl, mg := rfl, bs := rfl, N := rfl, sc := rfl, calm := rfl, room := hr.mono (by show 3 * k ≤ 3 * k + 2; omega), tk := L2N.takes_of rfl rfl rfl rfl, fn := fun _ _ => rfl,
      lam := fun c q h => by
        obtain ⟨h1, h2⟩ := hc c q h
        exact ⟨hcode.symm.trans h1, by rw [h2] <;> rfl, hr⟩
      calls := ih }
  refine ⟨t, pt _ ok ⟨L2.passes_of rfl, rfl, rfl⟩, ?_⟩
  have hN : ps.length ≤ N'.length := by
    have := congrArg List.length S.pre
    rw [List.length_take] at this
    omega
  have hds : ds.length = ps.length := by rw [r.len]; exact hvl
  have sr := sr_start (N := N') mr r (by rw [hds]; exact hN)
  refine qt Z ⟨ρ, H, fun a => a ∈ ρ⟩ ρ noO (env0 N'.length ds) m (L2.start N' vs) H _ ⟨sr, fun _ _ h _ _ => h, fun _ h => h, List.prefix_refl _, fun _ h => .inl h, fun i a h => nomatch h⟩ ?_
  have e1 : run T.W T.pr (k + 1) n ds m = (match fn.body.exs T.W (run T.W T.pr k) (env0 N'.length ds) m with
      | .nx _ m' => R.ok .non m'
      | .rt d m' => .ok d m'
      | .exc c _ m' => .exc c m'
      | .bad => .bad) := by
    rw [run, hp]
    show Fn.go T.W (run T.W T.pr k) fn ds m = _
    unfold Fn.go
    rw [if_pos (by rw [hpl]; exact hds), hsl]
    rfl
  rw [e1] at kf
  have cv : ∀ {ρ' m' H'}, StpB T.G Z ⟨ρ, H, fun a => a ∈ ρ⟩ ρ' m' H' → StpF T.G Z ρ H ρ' m' H' := fun q => ⟨q.mr, q.kp, q.dm, q.pre, q.new⟩
  show KO T.G _ Z ⟨ρ, H, fun a => a ∈ ρ⟩ _ (fn.body.exs T.W (run T.W T.pr k) (env0 N'.length ds) m)
  cases rb : fn.body.exs T.W (run T.W T.pr k) (env0 N'.length ds) m with
  | bad => rw [rb] at kf; exact kf
  | nx e' m' =>
    rw [rb] at kf
    exact fun ρ' O σ' H' q => kf .non ρ' H' (cv q.fin) (by rw [Rep])
  | rt d m' =>
    rw [rb] at kf
    exact fun v ρ' H' q r => kf v ρ' H' (cv q) r
  | exc c e' m' =>
    rw [rb] at kf
    exact fun cls dx ρ' σ' H' q er => kf cls dx ρ' H' (cv q) er
/-- the def at a statement of the module's top -/
def defD (x : Str) (st : Stmt) : He.DefD := ⟨(x, none), x, x, L2.defArgs st, L2.defBody st, L2.defScope st, [], []⟩
/-! ### the law's own promise -/
theorem law_sp {T : Txt} {n k : Nat} {H : Hp} {a : Addr} {ns : List Int} (tb : LamX.Tabs T.tb H) (hS : SqL T.K H a (ns.map V.int)) (hr : ∃ m, run T.W T.pr k n [.scr ns] [] = .ok (.bl true) m) :
    spF (run T.W T.pr k) T.G n 1 [.ref a] H (fun v _ => v = .bl true) fun _ _ _ => False := by
  obtain ⟨m, hr⟩ := hr
  refine ⟨rfl, fun _ => False, [], [.scr ns], [], ⟨tb, fun a h => h.elim, (fun a h => nomatch h), List.nodup_nil, rfl, (fun n xs h => by simp at h)⟩, Reps.cons ?_ Reps.nil, ?_⟩
  · rw [Rep]
    exact ⟨a, rfl, hS.imp (fun q => ⟨q, fun w => by
      rcases w with w | w | ⟨i, w⟩
      · exact w
      · cases w
      · cases w⟩) id⟩
  · show KF _ _ _ _ _ _ (run T.W T.pr k n [.scr ns] [])
    rw [hr]
    intro v ρ' H' st r
    rw [Rep] at r
    exact r
end Rf

/-! RTup: tuples of texts among the module's constants, the classes that are caught. -/
namespace Rf
open PySem (Str Addr Value Pos Expr Stmt Scope Program World Heap Shared CmpOp Operator UnaryOp)
open L2 (V Hp HO SqL SqT Rd upd upd_same upd_ne VK XK TE TT TA TS TG TI WX Cx Ends OpR R2 rI rI0 PE PT PW PA PS PSs PG PI)
/-- more facts of the head: tuples of texts, the classes of except clauses -/
structure TY (K : PySem.W.Frag) (mg : Str → Option Value) (er : Nat → Option Str) (tps : List (Str × List (List Nat))) (cat : List (Nat × Str)) : Prop where
  tup : ∀ q ∈ tps, ∃ (a : Addr) (o : PySem.Obj) (its : Array Value) (n : Nat), mg q.1 = some (.ref a) ∧ K.lookup a = some o ∧ o.cls = .type "tuple" ∧ o.dict = none ∧ o.data = .seq its n ∧ its.size ≤ PySem.sizeLine ∧ L2.Vals ((q.2.map mkS).map V.str) its.toList
  cat : ∀ q ∈ cat, ∃ C : Addr, mg q.2 = some (.ref C) ∧ ∀ c y a, er c = some y → mg y = some (.ref a) → PySem.W.exmOne K (.ref a) (.ref C) = some (decide (c = q.1))
theorem findS_at (z : List Nat) : ∀ {ys : List (List Nat)} {i k : Nat}, findS z i ys = some k → ∃ j, k = i + j ∧ ys[j]? = some z ∧ ∀ m, m < j → ys[m]? ≠ some z
  | [], i, k, h => by simp [findS] at h
  | y :: ys, i, k, h => by
    rw [findS] at h
    split at h
    · rename_i e
      cases h
      exact ⟨0, rfl, by simp [e], fun m hm => by omega⟩
    · rename_i e
      obtain ⟨j, h1, h2, h3⟩ := findS_at z h
      refine ⟨j + 1, by omega, by simpa using h2, fun m hm => ?_⟩
      cases m with
      | zero => simpa using e
      | succ m => simpa using h3 m (by omega)
def rIdx (K : PySem.W.Frag) : V → List V → Hp → VK → Prop := fun x xs H Q => ∃ p, ∃ ys : List Str, ∃ z j, x = .ref p ∧ xs = [.str z] ∧ SqT K H p (ys.map V.str) ∧ ys[j]? = some z ∧ (∀ m, m < j → ys[m]? ≠ some z) ∧ Q (.int (j : Nat)) H
theorem mkS_inj {s t : List Nat} (h : mkS s = mkS t) : s = t := by
  have := congrArg TL.tl h
  simpa [tl_mkS] using this
theorem o_index {G : Gl} : Op2 .rep G (fun x y H Q => rIdx G.K x [y] H Q) .index := by
  intro Z ρ O m H d1 d2 d v1 v2 Q g h1 h2 e k
  replace e : app_index [d1, d2] = some d := e
  unfold app_index at e
  split at e <;> rename_i hx <;> first | (simp only [List.cons.injEq, and_true] at hx; obtain ⟨rfl, rfl⟩ := hx) | cases e
  obtain ⟨ss, e2, e3⟩ := Option.bind_eq_some_iff.mp e
  obtain ⟨j, e4, e5⟩ := Option.map_eq_some_iff.mp e3
  subst e5
  obtain ⟨a, vs, e1, q1, z1, r1⟩ := h1.tup
  obtain ⟨q2, q3, q4⟩ := r1.strs2 e2
  subst q2
  rename_i z
  obtain ⟨i, rfl, h3, h4⟩ := findS_at z e4
  rw [e1, h2.str.1]
  refine ⟨a, ss.map mkS, _, i, rfl, rfl, q1.sq, ?_, fun m' hm hs => ?_, ?_⟩
  · rw [List.getElem?_map, h3]
    rfl
  · rw [List.getElem?_map] at hs
    obtain ⟨t, ht, ht2⟩ := Option.map_eq_some_iff.mp hs
    exact h4 m' hm (by rw [ht, mkS_inj ht2])
  · have := k (.int ((0 + i : Nat) : Int)) H keep_refl (prep (rep_int _))
    rwa [Nat.zero_add] at this
section
variable {g : Gm} {sc : Scope} {Wx : WX} {W : Nat} {b : Expr} {A B : E} {pos apos p1 p2 p3 p4 : Pos} {x : Str} {tps : List (Str × List (List Nat))} {cat : List (Nat × Str)} {er : Nat → Option Str} {ss : List (List Nat)}
theorem TY.rep {a : Addr} {o : PySem.Obj} {its : Array Value} {n : Nat} {G : Gl} (lk : G.K.lookup a = some o) (hc : o.cls = .type "tuple") (hd : o.data = .seq its n) (hz : its.size ≤ PySem.sizeLine) (hv : L2.Vals ((ss.map mkS).map V.str) its.toList) (hs : ∀ s ∈ ss, strOk s) (H : Hp) (W : Addr → Prop) (ρ : List Addr) : Rep G H W ρ (.tup (ss.map D.str)) (.ref a) := by
  rw [Rep]
  refine ⟨a, _, rfl, .inr ⟨o, its, n, lk, hc, hd, hz, hv⟩, ?_, reps_strs hs⟩
  have := hv.length
  rw [List.length_map, List.length_map, Array.length_toList] at this
  rw [List.length_map, LIM_eq]
  have h2 : ss.length = its.size := by rw [← Array.length_toList, ← this]; rfl
  rw [h2]; exact hz
def strsB (ss : List (List Nat)) : Bool := ss.all fun s => decide (s.length ≤ 1000) && s.all fun c => decide (c < 128)
theorem strsB_ok (h : strsB ss = true) : ∀ s ∈ ss, strOk s := fun s hs => by
  have := List.all_eq_true.mp h s hs
  rw [Bool.and_eq_true, decide_eq_true_eq, List.all_eq_true] at this
  exact ⟨Nat.le_trans this.1 (by decide), fun c hc => Nat.lt_trans (of_decide_eq_true (this.2 c hc)) (by decide)⟩
theorem se_tupC (Y : TY g.K g.mg er tps cat) (hg : sc.names.lookup x = some .globalImplicit) (hc : (x, ss) ∈ tps) (hs : strsB ss = true) (hdb : (x == ("__debug__" : Str)) = false := by decide) : SE g sc Wx .rep (.Name x pos) (.con (.tup (ss.map D.str))) := by
  obtain ⟨a, o, its, n, h1, h2, h3, h4, h5, h6, h7⟩ := Y.tup _ hc
  exact se_glob (v := .ref a) (u := .ref a) hg h1 rfl (TY.rep h2 h3 h5 h6 h7 (strsB_ok hs)) hdb
/-- x.index(e), x a tuple of texts of the module -/
theorem se_index (Y : TY g.K g.mg er tps cat) (hg : sc.names.lookup x = some .globalImplicit) (hc : (x, ss) ∈ tps) (hsb : strsB ss = true) (hb : SE g sc Wx .bor b B) (hdb : (x == ("__debug__" : Str)) = false := by decide)
    (hbase : ∀ env, PySem.attributeBase (.Name x p1) ("index" : Str) env (PySem.eval (.Name x p1) env) = PySem.eval (.Name x p1) env := by intro _; rfl) (hline : (apos.endLine == pos.line) = true := by rfl) (hs : ∀ env, PySem.starEach [b] env = [(false, PySem.eval b env)] := by intro _; rfl) :
    SE g sc Wx .rep (.Call (.Attribute (.Name x p1) ("index" : Str) apos) [b] [] pos) (.op .index (.cons (.con (.tup (ss.map D.str))) (.cons B .nil))) := by
  obtain ⟨a, o, its, n, h1, h2, h3, h4, h5, h6, h7⟩ := Y.tup _ hc
  obtain ⟨tb, pb, qb⟩ := hb
  refine ⟨L2.tBM g.K "tuple" (rIdx g.K) (L2.tC (.ref a)) (L2.tCons tb L2.tNil), fun X ok => ?_, ?_⟩
  · have h := L2.pe_bm PySem.F.plainAttrs_tuple PySem.F.slot_tuple_index PySem.F.type_tuple_index (r := rIdx X.K) L2.mt_tup_index (L2.pe_glob (pos := p1) (ok.gl hg) (show X.mg x = some (.ref a) by rw [ok.mg]; exact h1) (show L2.RelV (.ref a) (.ref a) from rfl) hdb) (pa_any1 (pb X ok) (hs _)) (hbase _) (by rw [hs]; rfl) hline (by rw [hs]; rfl) rfl
    rw [ok.K] at h
    exact h
  · have q : Snd g.C g.G Wx .rep (L2.tOp (fun x y H Q => rIdx g.K x [y] H Q) (L2.tC (.ref a)) tb) (.op .index (.cons (.con (.tup (ss.map D.str))) (.cons B .nil))) := snd_op2 o_index (snd_con (TY.rep h2 h3 h5 h6 h7 (strsB_ok hsb))).bor qb
    intro Z ρ O e m σ H Q s k
    exact ⟨.inr (.inl ⟨rfl, o, h2, h3, h4⟩), q Z ρ O e m σ H Q s k⟩
theorem cat_ok {n : Nat} (Y : TY g.K g.mg er tps cat) (he : g.C.nm.er = er) (hc : (n, x) ∈ cat) : CatOk g n x := by
  obtain ⟨C, h1, h2⟩ := Y.cat _ hc
  exact ⟨C, h1, fun c y a e1 e2 => h2 c y a (by rw [← he]; exact e1) e2⟩
end
/-! ### the facts by bits -/
def valStr : Value → Option (List Nat)
  | .str s _ => some s.cps.toList
  | _ => none
def tupB (K : PySem.W.Frag) (q : Str × List (List Nat)) : Bool := match K.lookup (He.ga K q.1) with
  | some o => decide (o.cls = .type "tuple") && (decide (o.dict = none) && (match o.data with
    | .seq its _ => decide (its.toList.map valStr = q.2.map some)
    | _ => false))
  | none => false
theorem vals_strs : ∀ {us : List Value} {ss : List (List Nat)}, us.map valStr = ss.map some → L2.Vals ((ss.map mkS).map V.str) us
  | [], [], _ => .nil
  | [], _ :: _, h => by cases h
  | _ :: _, [], h => by cases h
  | u :: us, s :: ss, h => by
    simp only [List.map_cons, List.cons.injEq] at h
    refine .cons ?_ (vals_strs h.2)
    have h1 := h.1
    unfold valStr at h1
    split at h1
    · rename_i s' t
      cases h1
      exact ⟨t, by cases s'; rfl⟩
    · cases h1
def catB (K : PySem.W.Frag) (q : Nat × Str) : Bool := (List.range 21).all fun i => decide (PySem.W.exmOne K (.ref (adOf K (i + 1))) (.ref (He.ga K q.2)) = some (decide (i + 1 = q.1)))
theorem tY_of {K : PySem.W.Frag} {mg : Str → Option Value} {er : Nat → Option Str} {tps : List (Str × List (List Nat))} {cat : List (Nat × Str)} (h1 : ∀ q ∈ tps, mg q.1 = some (.ref (He.ga K q.1))) (h2 : ∀ q ∈ cat, mg q.2 = some (.ref (He.ga K q.2)))
    (hb : tps.all (tupB K) = true) (hl : tps.all (fun q => decide (q.2.length ≤ 1000)) = true) (hc : cat.all (catB K) = true)
    (her : ∀ n x, er n = some x → 1 ≤ n ∧ n ≤ 21 ∧ ∃ w, (n, x, w) ∈ erTab) (hg : ∀ t ∈ erTab, mg t.2.1 = some (.ref (He.ga K t.2.1))) : TY K mg er tps cat := by
  refine ⟨fun q hq => ?_, fun q hq => ?_⟩
  · have b := List.all_eq_true.mp hb q hq
    unfold tupB at b
    split at b
    · rename_i o ho
      rw [Bool.and_eq_true, Bool.and_eq_true, decide_eq_true_eq, decide_eq_true_eq] at b
      obtain ⟨b1, b2, b3⟩ := b
      split at b3
      · rename_i its n hd
        have e := of_decide_eq_true b3
        have v := vals_strs e
        refine ⟨_, o, its, n, h1 q hq, ho, b1, b2, hd, ?_, v⟩
        have := v.length
        rw [List.length_map, List.length_map, Array.length_toList] at this
        rw [← this]
        exact Nat.le_trans (of_decide_eq_true (List.all_eq_true.mp hl q hq)) (by decide)
      · cases b3
    · cases b
  · refine ⟨_, h2 q hq, fun c y a e1 e2 => ?_⟩
    obtain ⟨n1, n2, w, hw⟩ := her c y e1
    have b := of_decide_eq_true (List.all_eq_true.mp (List.all_eq_true.mp hc q hq) (c - 1) (List.mem_range.mpr (by omega)))
    have e : c - 1 + 1 = c := by omega
    rw [e] at b
    have nm : ∀ t ∈ erTab, erName t.1 = t.2.1 := by decide +kernel
    have e3 := nm _ hw
    have e4 := hg _ hw
    rw [e2] at e4
    cases e4
    show PySem.W.exmOne K (.ref (He.ga K y)) _ = _
    rw [← show erName c = y from e3]
    exact b
end Rf
namespace Rf
open PySem (Str Addr Value Pos Expr Stmt Scope)
section
variable {g : Gm} {sc : Scope} {Wx : L2.WX} {a : Expr} {A : E} {p pos : Pos} {x : Str}
theorem se_sortedT (hx : isBlt g sc x (.builtin "sorted")) (ha : SE g sc Wx .bor a A) (hs : ∀ env : PySem.Env, PySem.starEach [a] env = [(false, PySem.eval a env)] := by intro _; rfl) : SE g sc Wx .fre (.Call (.Name x p) [a] [] pos) (.op .sorted (.cons A .nil)) :=
  se_sorted (fun X o => o.K ▸ L2.cr_sorted) hx ha hs
theorem b_set {bl fl : List Str} {cs : List (Str × Int)} {er : Nat → Option Str} (T : TF g.K g.mg bl fl cs er) (h : sc.names.lookup ("set" : Str) = some .globalImplicit) (hb : bl.contains ("set" : Str) = true) : isBlt g sc "set" (.type "set") := ⟨h, T.blt _ hb, by decide +kernel, by decide, by decide⟩
end
end Rf

namespace K51
open Rf Cr
/-! ### the text -/
def top (i : Nat) : PySem.Stmt := PySem.Challenge.pw_storesanew_k51_whole_sends_told_back.main.body.getD i (.Pass ⟨0, 0, 0, 0⟩)
def bl : List PySem.Str := (["len", "sum", "all", "min", "max", "sorted", "isinstance", "int", "str", "bool", "list", "tuple", "range", "zip", "enumerate", "set"] : List PySem.Str)
def fl : List PySem.Str := (["is_int", "is_right_plan", "greatest", "need_plan", "are_facts", "first_above", "send_told", "_law_source", "_law_pick", "_law_chosen", "_law_by_two", "_law_plan", "_law_greatest", "_law_amount", "_law_goes", "_law_facts", "_law_right", "_law_refusals", "_law_written", "law"] : List PySem.Str) ++ (["_law_refused", "_law_error", "TooMany"] : List PySem.Str)
def cs : List (PySem.Str × Int) := [(("MOST_STORES" : PySem.Str), (8 : Int)), (("MOST_AMOUNT" : PySem.Str), (1000000000000000000000000000000 : Int)), (("MOST_FILE" : PySem.Str), (100000000000000000000000000000000 : Int)), (("MOST_FACTS" : PySem.Str), (6 : Int))]
def er : Nat → Option PySem.Str
  | 1 => some "InvalidPlan"
  | 2 => some "InvalidHold"
  | 3 => some "InvalidSend"
  | 4 => some "InvalidFile"
  | 5 => some "InvalidLife"
  | 6 => some "InvalidReaders"
  | 7 => some "InvalidCode"
  | 8 => some "InvalidWords"
  | 9 => some "InvalidStore"
  | 10 => some "InvalidPart"
  | 11 => some "InvalidHelpers"
  | 12 => some "InvalidNumbers"
  | 13 => some "InvalidLot"
  | 14 => some "InvalidTable"
  | 15 => some "InvalidFacts"
  | 16 => some "InvalidNumber"
  | 17 => some "InvalidText"
  | 18 => some "Gone"
  | 19 => some "There"
  | 20 => some "Unlike"
  | 21 => some "NothingToUndo"
  | _ => none
def fnn : Nat → Option PySem.Str
  | 0 => some "is_int"
  | 1 => some "is_right_plan"
  | 2 => some "greatest"
  | 6 => some "need_plan"
  | 152 => some "are_facts"
  | 153 => some "first_above"
  | 154 => some "send_told"
  | 15 => some "_law_source"
  | 16 => some "_law_pick"
  | 17 => some "_law_chosen"
  | 47 => some "_law_by_two"
  | 26 => some "_law_plan"
  | 27 => some "_law_greatest"
  | 28 => some "_law_amount"
  | 155 => some "_law_goes"
  | 156 => some "_law_facts"
  | 157 => some "_law_right"
  | 158 => some "_law_refusals"
  | 159 => some "_law_written"
  | 160 => some "law"
  | _ => none
def ids : Nat → Bool
  | 0 => true
  | 1 => true
  | 2 => true
  | 6 => true
  | 152 => true
  | 153 => true
  | 154 => true
  | 15 => true
  | 16 => true
  | 17 => true
  | 47 => true
  | 26 => true
  | 27 => true
  | 28 => true
  | 155 => true
  | 156 => true
  | 157 => true
  | 158 => true
  | 159 => true
  | 160 => true
  | _ => false
abbrev pr : Nat → Option Rf.Fn := Cr.G
def tps : List (PySem.Str × List (List Nat)) := []
def cat : List (Nat × PySem.Str) := []
abbrev WF : Nat := 400
def nm : Rf.Names := ⟨fnn, er⟩
abbrev Tx (P : PySem.Program) (w : PySem.World) (K : PySem.W.Frag) (mg : PySem.Str → Option PySem.Value) (base : PySem.Heap) (tb : List (PySem.Addr × PySem.Str)) : Rf.Txt := ⟨P, w, K, mg, base, nm, ids, tb, WF, pr⟩
section
variable {P : PySem.Program} {w : PySem.World} {K : PySem.W.Frag} {mg : PySem.Str → Option PySem.Value} {base : PySem.Heap} {tb : List (PySem.Addr × PySem.Str)} {k : Nat} {lm : Option (PySem.Addr × PySem.Str)} {Wx : L2.WX}
def N0 : List PySem.Str := (["value", "low", "high"] : List PySem.Str)
/-- is_int -/
theorem d0 (T : TF K mg bl fl cs er) (Y : TY K mg er tps cat) (nd : N0.Nodup) : SSs ((Tx P w K mg base tb).gm k N0 nd lm) (L2.defScope (top 28)) Wx WF (L2.defBody (top 28)) c0 :=
  (sss_cons (ss_ret (se_and (se_isinst (T := .int) (b_isinstance T rfl rfl) (b_int T rfl rfl) ((se_var rfl rfl)).bor) (se_and (se_not (se_isinst (T := .bool) (b_isinstance T rfl rfl) (b_bool T rfl rfl) ((se_var rfl rfl)).bor)) (se_one (se_chain k_le k_le ((se_var rfl rfl)).bor ((se_var rfl rfl)).bor ((se_var rfl rfl)).bor)))))
  sss_nil)
def N1 : List PySem.Str := (["value"] : List PySem.Str)
/-- is_right_plan -/
theorem d1 (T : TF K mg bl fl cs er) (Y : TY K mg er tps cat) (nd : N1.Nodup) : SSs ((Tx P w K mg base tb).gm k N1 nd lm) (L2.defScope (top 29)) Wx WF (L2.defBody (top 29)) c1 :=
  (sss_cons (ss_if (sw_or (st_not (st_val (se_isinst (T := .tuple) (b_isinstance T rfl rfl) (b_tuple T rfl rfl) ((se_var rfl rfl)).bor))) (sw_or (st_k k_ne ((se_len (b_len T rfl rfl) ((se_var rfl rfl)).bor)).bor (se_int).bor) (sw_or1 (st_not (st_val (se_call ⟨rfl, rfl⟩ rfl (sa_cons (se_ix ((se_var rfl rfl)).bor (se_int).bor) (sa_cons se_int (sa_cons (se_const T rfl (by decide)) sa_nil))))))))).st
  (sss_cons (ss_ret se_bl)
  sss_nil)
  sss_nil)
  (sss_cons (ss_ret (se_and (se_call ⟨rfl, rfl⟩ rfl (sa_cons (se_ix ((se_var rfl rfl)).bor (se_int).bor) (sa_cons se_int (sa_cons (se_sub ((se_ix ((se_var rfl rfl)).bor (se_int).bor)).bor (se_int).bor) sa_nil)))) (se_one (se_call ⟨rfl, rfl⟩ rfl (sa_cons (se_ix ((se_var rfl rfl)).bor (se_int).bor) (sa_cons se_int (sa_cons (se_ix ((se_var rfl rfl)).bor (se_int).bor) sa_nil)))))))
  sss_nil))
def N2 : List PySem.Str := (["plan", "hold", "send", "at"] : List PySem.Str)
/-- greatest -/
theorem d2 (T : TF K mg bl fl cs er) (Y : TY K mg er tps cat) (nd : N2.Nodup) : SSs ((Tx P w K mg base tb).gm k N2 nd lm) (L2.defScope (top 30)) Wx WF (L2.defBody (top 30)) c2 :=
  (sss_cons (ss_ret (se_sum (b_sum T rfl rfl) ((se_comp (own := [("at", 3)]) (si_range1 (b_range T rfl rfl) ((se_ix ((se_var rfl rfl)).bor (se_int).bor)).bor) (sg_nm rfl rfl) sts_nil (se_min2 (b_min T rfl rfl) ((se_var rfl rfl)).bor ((se_mul ((se_var rfl rfl)).bor ((se_sub ((se_ix ((se_var rfl rfl)).bor (se_int).bor)).bor ((se_var rfl rfl)).bor)).bor)).bor) (blk_by rfl) (slots_by rfl))).bor))
  sss_nil)
def N6 : List PySem.Str := (["value"] : List PySem.Str)
/-- need_plan -/
theorem d6 (T : TF K mg bl fl cs er) (Y : TY K mg er tps cat) (nd : N6.Nodup) : SSs ((Tx P w K mg base tb).gm k N6 nd lm) (L2.defScope (top 31)) Wx WF (L2.defBody (top 31)) c6 :=
  (sss_cons (ss_if (st_not (st_val (se_call ⟨rfl, rfl⟩ rfl (sa_cons (se_var rfl rfl) sa_nil))))
  (sss_cons (ss_raise (err_ok T rfl rfl) rfl)
  sss_nil)
  sss_nil)
  sss_nil)
def N152 : List PySem.Str := (["value", "fact"] : List PySem.Str)
/-- are_facts -/
theorem d152 (T : TF K mg bl fl cs er) (Y : TY K mg er tps cat) (nd : N152.Nodup) : SSs ((Tx P w K mg base tb).gm k N152 nd lm) (L2.defScope (top 34)) Wx WF (L2.defBody (top 34)) c152 :=
  (sss_cons (ss_if (sw_or (st_not (st_val (se_isinst (T := .tuple) (b_isinstance T rfl rfl) (b_tuple T rfl rfl) ((se_var rfl rfl)).bor))) (sw_or1 (st_k k_gt ((se_len (b_len T rfl rfl) ((se_var rfl rfl)).bor)).bor ((se_const T rfl (by decide))).bor))).st
  (sss_cons (ss_ret se_bl)
  sss_nil)
  sss_nil)
  (sss_cons (ss_for (si_rep (se_var rfl rfl)) (sg_nm rfl rfl)
  (sss_cons (ss_if (sw_or (st_not (st_val (se_isinst (T := .tuple) (b_isinstance T rfl rfl) (b_tuple T rfl rfl) ((se_var rfl rfl)).bor))) (sw_or1 (st_k k_ne ((se_len (b_len T rfl rfl) ((se_var rfl rfl)).bor)).bor (se_int).bor))).st
  (sss_cons (ss_ret se_bl)
  sss_nil)
  sss_nil)
  (sss_cons (ss_if (sw_or (st_not (st_val (se_call ⟨rfl, rfl⟩ rfl (sa_cons (se_ix ((se_var rfl rfl)).bor (se_int).bor) (sa_cons se_int (sa_cons (se_const T rfl (by decide)) sa_nil)))))) (sw_or1 (st_not (st_val (se_call ⟨rfl, rfl⟩ rfl (sa_cons (se_ix ((se_var rfl rfl)).bor (se_int).bor) (sa_cons se_int (sa_cons (se_const T rfl (by decide)) sa_nil)))))))).st
  (sss_cons (ss_ret se_bl)
  sss_nil)
  sss_nil)
  sss_nil)))
  (sss_cons (ss_ret se_bl)
  sss_nil)))
def N153 : List PySem.Str := (["plan", "hold", "file", "low", "high", "middle"] : List PySem.Str)
/-- first_above -/
theorem d153 (T : TF K mg bl fl cs er) (Y : TY K mg er tps cat) (nd : N153.Nodup) : SSs ((Tx P w K mg base tb).gm k N153 nd lm) (L2.defScope (top 35)) Wx WF (L2.defBody (top 35)) c153 :=
  (sss_cons (ss_par rfl rfl rfl rfl rfl (sa_cons se_int (sa_cons ((se_add ((se_const T rfl (by decide))).bor (se_int).bor)).rep sa_nil)) rfl rfl)
  (sss_cons (ss_while (st_k k_lt ((se_var rfl rfl)).bor ((se_var rfl rfl)).bor)
  (sss_cons (ss_set rfl rfl (se_fdiv ((se_add ((se_var rfl rfl)).bor ((se_var rfl rfl)).bor)).bor (se_int).bor))
  (sss_cons (ss_if (st_k k_ge ((se_call ⟨rfl, rfl⟩ rfl (sa_cons (se_var rfl rfl) (sa_cons (se_var rfl rfl) (sa_cons (se_var rfl rfl) sa_nil))))).bor ((se_var rfl rfl)).bor)
  (sss_cons (ss_set rfl rfl (se_var rfl rfl))
  sss_nil)
  (sss_cons (ss_set rfl rfl ((se_add ((se_var rfl rfl)).bor (se_int).bor)).rep)
  sss_nil))
  sss_nil)))
  (sss_cons (ss_ret (se_var rfl rfl))
  sss_nil)))
def N154 : List PySem.Str := (["plan", "facts", "low", "high", "hold", "file"] : List PySem.Str)
/-- send_told -/
theorem d154 (T : TF K mg bl fl cs er) (Y : TY K mg er tps cat) (nd : N154.Nodup) : SSs ((Tx P w K mg base tb).gm k N154 nd lm) (L2.defScope (top 36)) Wx WF (L2.defBody (top 36)) c154 :=
  (sss_cons (ss_ex (se_call ⟨rfl, rfl⟩ rfl (sa_cons (se_var rfl rfl) sa_nil)))
  (sss_cons (ss_if (st_not (st_val (se_call ⟨rfl, rfl⟩ rfl (sa_cons (se_var rfl rfl) sa_nil))))
  (sss_cons (ss_raise (err_ok T rfl rfl) rfl)
  sss_nil)
  sss_nil)
  (sss_cons (ss_par rfl rfl rfl rfl rfl (sa_cons se_int (sa_cons (se_const T rfl (by decide)) sa_nil)) rfl rfl)
  (sss_cons (ss_for (si_rep (se_var rfl rfl)) (sg_tp (sgs_cons (sg_nm rfl rfl) (sgs_cons (sg_nm rfl rfl) sgs_nil)))
  (sss_cons (ss_set rfl rfl (se_max2 (b_max T rfl rfl) ((se_var rfl rfl)).bor ((se_call ⟨rfl, rfl⟩ rfl (sa_cons (se_var rfl rfl) (sa_cons (se_var rfl rfl) (sa_cons (se_var rfl rfl) sa_nil))))).bor))
  (sss_cons (ss_set rfl rfl (se_min2 (b_min T rfl rfl) ((se_var rfl rfl)).bor ((se_sub ((se_call ⟨rfl, rfl⟩ rfl (sa_cons (se_var rfl rfl) (sa_cons (se_var rfl rfl) (sa_cons ((se_add ((se_var rfl rfl)).bor (se_int).bor)).rep sa_nil))))).bor (se_int).bor)).bor))
  sss_nil)))
  (sss_cons (ss_ret (se_ite (st_k k_le ((se_var rfl rfl)).bor ((se_var rfl rfl)).bor) (se_tup (sa_cons (se_var rfl rfl) (sa_cons (se_var rfl rfl) sa_nil))) se_non))
  sss_nil)))))
def N15 : List PySem.Str := (["script", "k", "number", "start"] : List PySem.Str)
/-- _law_source -/
theorem d15 (T : TF K mg bl fl cs er) (Y : TY K mg er tps cat) (nd : N15.Nodup) : SSs ((Tx P w K mg base tb).gm k N15 nd lm) (L2.defScope (top 38)) Wx WF (L2.defBody (top 38)) c15 :=
  (sss_cons (ss_set rfl rfl se_int)
  (sss_cons (ss_if (st_k k_gt ((se_len (b_len T rfl rfl) ((se_var rfl rfl)).bor)).bor ((se_var rfl rfl)).bor)
  (sss_cons (ss_set rfl rfl (se_intc (b_int T rfl rfl) ((se_ix ((se_var rfl rfl)).bor ((se_var rfl rfl)).bor)).bor))
  sss_nil)
  sss_nil)
  (sss_cons (ss_set rfl rfl (se_mod ((se_add ((se_add ((se_mul ((se_var rfl rfl)).bor (se_int).bor)).bor ((se_mul (se_int).bor ((se_var rfl rfl)).bor)).bor)).bor (se_int).bor)).bor (se_int).bor))
  (sss_cons (ss_set rfl rfl ((se_add ((se_add ((se_mod ((se_mul ((se_var rfl rfl)).bor ((se_var rfl rfl)).bor)).bor (se_int).bor)).bor ((se_mul (se_int).bor ((se_var rfl rfl)).bor)).bor)).bor (se_int).bor)).rep)
  (sss_cons (ss_ret (se_newM (sa_cons (se_ite (st_k k_ge ((se_var rfl rfl)).bor ((se_pow (se_int).bor (se_int).bor)).bor) (se_var rfl rfl) se_int) (sa_cons (se_var rfl rfl) sa_nil))))
  sss_nil)))))
def N16 : List PySem.Str := (["source", "many", "found"] : List PySem.Str)
/-- _law_pick -/
theorem d16 (T : TF K mg bl fl cs er) (Y : TY K mg er tps cat) (nd : N16.Nodup) : SSs ((Tx P w K mg base tb).gm k N16 nd lm) (L2.defScope (top 39)) Wx WF (L2.defBody (top 39)) c16 :=
  (sss_cons (ss_if (st_k k_gt ((se_ix ((se_var rfl rfl)).bor (se_int).bor)).bor (se_int).bor)
  (sss_cons (ss_set rfl rfl (se_mod ((se_intc (b_int T rfl rfl) ((se_ix ((se_var rfl rfl)).bor (se_int).bor)).bor)).bor ((se_var rfl rfl)).bor))
  (sss_cons (ss_msetIx (se_fdiv ((se_intc (b_int T rfl rfl) ((se_ix ((se_var rfl rfl)).bor (se_int).bor)).bor)).bor ((se_var rfl rfl)).bor) (se_var rfl rfl) (se_int).bor)
  (sss_cons (ss_ret (se_var rfl rfl))
  sss_nil)))
  sss_nil)
  (sss_cons (ss_msetIx (se_mod ((se_intc (b_int T rfl rfl) ((se_add ((se_mul ((se_ix ((se_var rfl rfl)).bor (se_int).bor)).bor (se_int).bor)).bor (se_int).bor)).bor)).bor (se_int).bor) (se_var rfl rfl) (se_int).bor)
  (sss_cons (ss_ret (se_mod ((se_fdiv ((se_mod ((se_intc (b_int T rfl rfl) ((se_mul ((se_ix ((se_var rfl rfl)).bor (se_int).bor)).bor ((se_ix ((se_var rfl rfl)).bor (se_int).bor)).bor)).bor)).bor (se_int).bor)).bor (se_int).bor)).bor ((se_var rfl rfl)).bor))
  sss_nil)))
def N17 : List PySem.Str := (["source", "things"] : List PySem.Str)
/-- _law_chosen -/
theorem d17 (T : TF K mg bl fl cs er) (Y : TY K mg er tps cat) (nd : N17.Nodup) : SSs ((Tx P w K mg base tb).gm k N17 nd lm) (L2.defScope (top 40)) Wx WF (L2.defBody (top 40)) c17 :=
  (sss_cons (ss_ret (se_ix ((se_var rfl rfl)).bor ((se_call ⟨rfl, rfl⟩ rfl (sa_cons (se_var rfl rfl) (sa_cons (se_len (b_len T rfl rfl) ((se_var rfl rfl)).bor) sa_nil)))).bor))
  sss_nil)
def N47 : List PySem.Str := (["call", "one", "other"] : List PySem.Str)
/-- _law_by_two -/
theorem d47 (T : TF K mg bl fl cs er) (Y : TY K mg er tps cat) (nd : N47.Nodup) (hL : LamOk ((Tx P w K mg base tb).gm k N47 nd lm) "_law_refused") (hA : LamAt ((Tx P w K mg base tb).gm k N47 nd lm) ("_law_by_two" ++ ".<locals>.")) : SSs ((Tx P w K mg base tb).gm k N47 nd lm) (L2.defScope (top 41)) Wx WF (L2.defBody (top 41)) c47 :=
  (sss_cons (ss_ret (se_ref hL hA rfl rfl fun E => (se_callv rfl rfl (sa_cons (se_var rfl rfl) (sa_cons (se_var rfl rfl) sa_nil)))))
  sss_nil)
def N26 : List PySem.Str := (["source", "most_so", "stores", "helpers"] : List PySem.Str)
/-- _law_plan -/
theorem d26 (T : TF K mg bl fl cs er) (Y : TY K mg er tps cat) (nd : N26.Nodup) : SSs ((Tx P w K mg base tb).gm k N26 nd lm) (L2.defScope (top 44)) Wx WF (L2.defBody (top 44)) c26 :=
  (sss_cons (ss_set rfl rfl ((se_add (se_int).bor ((se_call ⟨rfl, rfl⟩ rfl (sa_cons (se_var rfl rfl) (sa_cons (se_sub ((se_var rfl rfl)).bor (se_int).bor) sa_nil)))).bor)).rep)
  (sss_cons (ss_set rfl rfl ((se_add (se_int).bor ((se_call ⟨rfl, rfl⟩ rfl (sa_cons (se_var rfl rfl) (sa_cons (se_sub ((se_var rfl rfl)).bor (se_int).bor) sa_nil)))).bor)).rep)
  (sss_cons (ss_ret (se_tup (sa_cons (se_var rfl rfl) (sa_cons ((se_add (se_int).bor ((se_call ⟨rfl, rfl⟩ rfl (sa_cons (se_var rfl rfl) (sa_cons (se_var rfl rfl) sa_nil)))).bor)).rep (sa_cons (se_var rfl rfl) sa_nil)))))
  sss_nil)))
def N27 : List PySem.Str := (["plan_so", "hold", "send", "total", "many"] : List PySem.Str)
/-- _law_greatest -/
theorem d27 (T : TF K mg bl fl cs er) (Y : TY K mg er tps cat) (nd : N27.Nodup) : SSs ((Tx P w K mg base tb).gm k N27 nd lm) (L2.defScope (top 45)) Wx WF (L2.defBody (top 45)) c27 :=
  (sss_cons (ss_set rfl rfl se_int)
  (sss_cons (ss_for (si_range2 (b_range T rfl rfl) ((se_add ((se_sub ((se_ix ((se_var rfl rfl)).bor (se_int).bor)).bor ((se_ix ((se_var rfl rfl)).bor (se_int).bor)).bor)).bor (se_int).bor)).bor ((se_add ((se_ix ((se_var rfl rfl)).bor (se_int).bor)).bor (se_int).bor)).bor) (sg_nm rfl rfl)
  (sss_cons (ss_set rfl rfl ((se_add ((se_var rfl rfl)).bor ((se_min2 (b_min T rfl rfl) ((se_var rfl rfl)).bor ((se_mul ((se_var rfl rfl)).bor ((se_var rfl rfl)).bor)).bor)).bor)).rep)
  sss_nil))
  (sss_cons (ss_ret (se_var rfl rfl))
  sss_nil)))
def N28 : List PySem.Str := (["source", "most_so"] : List PySem.Str)
/-- _law_amount -/
theorem d28 (T : TF K mg bl fl cs er) (Y : TY K mg er tps cat) (nd : N28.Nodup) : SSs ((Tx P w K mg base tb).gm k N28 nd lm) (L2.defScope (top 46)) Wx WF (L2.defBody (top 46)) c28 :=
  (sss_cons (ss_ret (se_call ⟨rfl, rfl⟩ rfl (sa_cons (se_var rfl rfl) (sa_cons ((se_lst (sa_cons se_int (sa_cons se_int (sa_cons (se_var rfl rfl) (sa_cons (se_call ⟨rfl, rfl⟩ rfl (sa_cons (se_var rfl rfl) (sa_cons ((se_add ((se_var rfl rfl)).bor (se_int).bor)).rep sa_nil))) (sa_cons (se_call ⟨rfl, rfl⟩ rfl (sa_cons (se_var rfl rfl) (sa_cons ((se_add ((se_var rfl rfl)).bor (se_int).bor)).rep sa_nil))) sa_nil))))))).rep sa_nil))))
  sss_nil)
def N155 : List PySem.Str := (["plan_so", "facts_so", "send", "hold", "file"] : List PySem.Str)
/-- _law_goes -/
theorem d155 (T : TF K mg bl fl cs er) (Y : TY K mg er tps cat) (nd : N155.Nodup) : SSs ((Tx P w K mg base tb).gm k N155 nd lm) (L2.defScope (top 47)) Wx WF (L2.defBody (top 47)) c155 :=
  (sss_cons (ss_ret (se_k k_eq ((se_comp (own := [("hold", 3), ("file", 4)]) (si_bor ((se_var rfl rfl)).bor) (sg_tp (sgs_cons (sg_nm rfl rfl) (sgs_cons (sg_nm rfl rfl) sgs_nil))) (sts_one (st_k k_ne ((se_call ⟨rfl, rfl⟩ rfl (sa_cons (se_var rfl rfl) (sa_cons (se_var rfl rfl) (sa_cons (se_var rfl rfl) sa_nil))))).bor ((se_var rfl rfl)).bor)) se_int (blk_by rfl) (slots_by rfl))).bor ((se_lst sa_nil)).bor))
  sss_nil)
def N156 : List PySem.Str := (["source", "plan_so", "most_so", "send", "found", "turn", "hold", "file"] : List PySem.Str)
/-- _law_facts -/
theorem d156 (T : TF K mg bl fl cs er) (Y : TY K mg er tps cat) (nd : N156.Nodup) : SSs ((Tx P w K mg base tb).gm k N156 nd lm) (L2.defScope (top 48)) Wx WF (L2.defBody (top 48)) c156 :=
  (sss_cons (ss_set rfl rfl (se_tup sa_nil))
  (sss_cons (ss_for (si_range1 (b_range T rfl rfl) ((se_call ⟨rfl, rfl⟩ rfl (sa_cons (se_var rfl rfl) (sa_cons se_int sa_nil)))).bor) (sg_nm rfl rfl)
  (sss_cons (ss_set rfl rfl (se_call ⟨rfl, rfl⟩ rfl (sa_cons (se_var rfl rfl) (sa_cons (se_var rfl rfl) sa_nil))))
  (sss_cons (ss_set rfl rfl ((se_add ((se_call ⟨rfl, rfl⟩ rfl (sa_cons (se_var rfl rfl) (sa_cons (se_var rfl rfl) (sa_cons (se_var rfl rfl) sa_nil))))).bor ((se_intc (b_int T rfl rfl) ((se_k k_eq ((se_call ⟨rfl, rfl⟩ rfl (sa_cons (se_var rfl rfl) (sa_cons se_int sa_nil)))).bor (se_int).bor)).bor)).bor)).rep)
  (sss_cons (ss_set rfl rfl ((se_add ((se_var rfl rfl)).bor ((se_tup (sa_cons (se_tup (sa_cons (se_var rfl rfl) (sa_cons (se_var rfl rfl) sa_nil))) sa_nil))).bor)).rep)
  sss_nil))))
  (sss_cons (ss_ret (se_var rfl rfl))
  sss_nil)))
def N157 : List PySem.Str := (["source", "plan_so", "most_so", "facts_so", "found", "good", "send"] : List PySem.Str)
/-- _law_right -/
theorem d157 (T : TF K mg bl fl cs er) (Y : TY K mg er tps cat) (nd : N157.Nodup) : SSs ((Tx P w K mg base tb).gm k N157 nd lm) (L2.defScope (top 49)) Wx WF (L2.defBody (top 49)) c157 :=
  (sss_cons (ss_set rfl rfl (se_call ⟨rfl, rfl⟩ rfl (sa_cons (se_var rfl rfl) (sa_cons (se_var rfl rfl) (sa_cons (se_var rfl rfl) (sa_cons (se_call ⟨rfl, rfl⟩ rfl (sa_cons (se_var rfl rfl) (sa_cons ((se_add (se_int).bor ((se_var rfl rfl)).bor)).rep sa_nil))) sa_nil))))))
  (sss_cons (ss_set rfl rfl (se_call ⟨rfl, rfl⟩ rfl (sa_cons (se_var rfl rfl) (sa_cons (se_var rfl rfl) sa_nil))))
  (sss_cons (ss_if (st_k k_lt ((se_var rfl rfl)).bor (se_int).bor)
  (sss_cons (ss_setLc rfl rfl (own := [("send", 6)]) (si_range1 (b_range T rfl rfl) (se_int).bor) (sg_nm rfl rfl) (sts_one (st_val (se_call ⟨rfl, rfl⟩ rfl (sa_cons (se_var rfl rfl) (sa_cons (se_var rfl rfl) (sa_cons (se_var rfl rfl) sa_nil)))))) (se_var rfl rfl) (blk_by rfl) (slots_by rfl) rfl)
  (sss_cons (ss_if (st_k k_ne ((se_isN ((se_var rfl rfl)).bor)).bor ((se_k k_eq ((se_var rfl rfl)).bor ((se_lst sa_nil)).bor)).bor)
  (sss_cons (ss_ret se_bl)
  sss_nil)
  sss_nil)
  (sss_cons (ss_if (sw_and (st_k k_ne ((se_var rfl rfl)).bor ((se_lst sa_nil)).bor) (sw_and1 (sw_or (st_k k_ne ((se_ix ((se_var rfl rfl)).bor (se_int).bor)).bor ((se_ix ((se_var rfl rfl)).bor (se_int).bor)).bor) (sw_or1 (sw_and (st_k k_lt ((se_ix ((se_var rfl rfl)).bor ((se_neg (se_int).bor)).bor)).bor (se_int).bor) (sw_and1 (st_k k_ne ((se_ix ((se_var rfl rfl)).bor (se_int).bor)).bor ((se_ix ((se_var rfl rfl)).bor ((se_neg (se_int).bor)).bor)).bor))).st)).st)).st
  (sss_cons (ss_ret se_bl)
  sss_nil)
  sss_nil)
  sss_nil)))
  sss_nil)
  (sss_cons (ss_if (st_isN ((se_var rfl rfl)).bor)
  (sss_cons (ss_ret se_bl)
  sss_nil)
  sss_nil)
  (sss_cons (ss_if (sw_or (st_not (st_val (se_isinst (T := .tuple) (b_isinstance T rfl rfl) (b_tuple T rfl rfl) ((se_var rfl rfl)).bor))) (sw_or (st_k k_ne ((se_len (b_len T rfl rfl) ((se_var rfl rfl)).bor)).bor (se_int).bor) (sw_or1 (st_not (st_chain3 k_le k_le k_le (se_int).bor ((se_ix ((se_var rfl rfl)).bor (se_int).bor)).bor ((se_ix ((se_var rfl rfl)).bor (se_int).bor)).bor ((se_pow (se_int).bor (se_int).bor)).bor))))).st
  (sss_cons (ss_ret se_bl)
  sss_nil)
  sss_nil)
  (sss_cons (ss_for (si_rep ((se_lst (sa_cons (se_ix ((se_var rfl rfl)).bor (se_int).bor) (sa_cons (se_ix ((se_var rfl rfl)).bor (se_int).bor) (sa_cons (se_fdiv ((se_add ((se_ix ((se_var rfl rfl)).bor (se_int).bor)).bor ((se_ix ((se_var rfl rfl)).bor (se_int).bor)).bor)).bor (se_int).bor) sa_nil))))).rep) (sg_nm rfl rfl)
  (sss_cons (ss_if (st_not (st_val (se_call ⟨rfl, rfl⟩ rfl (sa_cons (se_var rfl rfl) (sa_cons (se_var rfl rfl) (sa_cons (se_var rfl rfl) sa_nil))))))
  (sss_cons (ss_ret se_bl)
  sss_nil)
  sss_nil)
  sss_nil))
  (sss_cons (ss_if (sw_and (st_k k_gt ((se_ix ((se_var rfl rfl)).bor (se_int).bor)).bor (se_int).bor) (sw_and1 (st_val (se_call ⟨rfl, rfl⟩ rfl (sa_cons (se_var rfl rfl) (sa_cons (se_var rfl rfl) (sa_cons (se_sub ((se_ix ((se_var rfl rfl)).bor (se_int).bor)).bor (se_int).bor) sa_nil))))))).st
  (sss_cons (ss_ret se_bl)
  sss_nil)
  sss_nil)
  (sss_cons (ss_ret (se_or (se_k k_eq ((se_ix ((se_var rfl rfl)).bor (se_int).bor)).bor ((se_pow (se_int).bor (se_int).bor)).bor) (se_one (se_not (se_call ⟨rfl, rfl⟩ rfl (sa_cons (se_var rfl rfl) (sa_cons (se_var rfl rfl) (sa_cons ((se_add ((se_ix ((se_var rfl rfl)).bor (se_int).bor)).bor (se_int).bor)).rep sa_nil))))))))
  sss_nil))))))))
def N158 : List PySem.Str := (["odds", "odd"] : List PySem.Str)
/-- _law_refusals -/
theorem d158 (T : TF K mg bl fl cs er) (Y : TY K mg er tps cat) (nd : N158.Nodup) : SSs ((Tx P w K mg base tb).gm k N158 nd lm) (L2.defScope (top 50)) Wx WF (L2.defBody (top 50)) c158 :=
  (sss_cons (ss_set rfl rfl ((se_lst (sa_cons se_non (sa_cons ((se_lst (sa_cons (se_tup (sa_cons se_int (sa_cons se_int sa_nil))) sa_nil))).rep (sa_cons (se_tup (sa_cons se_int (sa_cons se_int sa_nil))) (sa_cons ((se_mul ((se_tup (sa_cons (se_tup (sa_cons se_int (sa_cons se_int sa_nil))) sa_nil))).bor (se_int).bor)).rep (sa_cons (se_tup (sa_cons (se_tup (sa_cons se_int sa_nil)) sa_nil)) sa_nil))))))).rep)
  (sss_cons (ss_set rfl rfl ((se_add ((se_var rfl rfl)).bor ((se_lst (sa_cons (se_tup (sa_cons (se_tup (sa_cons se_int (sa_cons se_int (sa_cons se_int sa_nil)))) sa_nil)) (sa_cons (se_tup (sa_cons (se_tup (sa_cons (se_neg (se_int).bor) (sa_cons se_int sa_nil))) sa_nil)) (sa_cons (se_tup (sa_cons (se_tup (sa_cons se_int (sa_cons (se_neg (se_int).bor) sa_nil))) sa_nil)) (sa_cons (se_tup (sa_cons (se_tup (sa_cons ((se_add ((se_pow (se_int).bor (se_int).bor)).bor (se_int).bor)).rep (sa_cons se_int sa_nil))) sa_nil)) (sa_cons (se_tup (sa_cons (se_tup (sa_cons se_int (sa_cons ((se_add ((se_pow (se_int).bor (se_int).bor)).bor (se_int).bor)).rep sa_nil))) sa_nil)) sa_nil))))))).bor)).rep)
  (sss_cons (ss_set rfl rfl ((se_add ((se_var rfl rfl)).bor ((se_lst (sa_cons (se_tup (sa_cons (se_tup (sa_cons se_bl (sa_cons se_int sa_nil))) sa_nil)) (sa_cons (se_tup (sa_cons (se_tup (sa_cons se_int (sa_cons se_bl sa_nil))) sa_nil)) (sa_cons (se_tup (sa_cons se_non sa_nil)) (sa_cons (se_tup (sa_cons ((se_lst (sa_cons se_int (sa_cons se_int sa_nil)))).rep sa_nil)) (sa_cons (se_tup (sa_cons (se_tup (sa_cons (se_str rfl) (sa_cons se_int sa_nil))) sa_nil)) sa_nil))))))).bor)).rep)
  (sss_cons (ss_if (st_k k_ne ((se_comp (own := [("odd", 1)]) (si_bor ((se_var rfl rfl)).bor) (sg_nm rfl rfl) (sts_one (st_k k_ne ((se_call ⟨rfl, rfl⟩ rfl (sa_cons (se_fnT T rfl ⟨rfl, rfl⟩ rfl) (sa_cons (se_tup (sa_cons se_int (sa_cons se_int (sa_cons se_int sa_nil)))) (sa_cons (se_var rfl rfl) sa_nil))))).bor ((se_str rfl)).bor)) (se_var rfl rfl) (blk_by rfl) (slots_by rfl))).bor ((se_lst sa_nil)).bor)
  (sss_cons (ss_ret se_bl)
  sss_nil)
  sss_nil)
  (sss_cons (ss_ret (se_k k_eq ((se_comp (own := [("odd", 1)]) (si_bor ((se_tup (sa_cons se_non (sa_cons (se_tup (sa_cons se_int (sa_cons se_int (sa_cons se_int sa_nil)))) (sa_cons ((se_lst (sa_cons se_int (sa_cons se_int (sa_cons se_int sa_nil))))).rep sa_nil))))).bor) (sg_nm rfl rfl) sts_nil (se_call ⟨rfl, rfl⟩ rfl (sa_cons (se_fnT T rfl ⟨rfl, rfl⟩ rfl) (sa_cons (se_var rfl rfl) (sa_cons se_non sa_nil)))) (blk_by rfl) (slots_by rfl))).bor ((se_mul ((se_lst (sa_cons (se_str rfl) sa_nil))).bor (se_int).bor)).bor))
  sss_nil)))))
def N159 : List PySem.Str := (["one", "top_so", "every", "found", "facts_so"] : List PySem.Str)
/-- _law_written -/
theorem d159 (T : TF K mg bl fl cs er) (Y : TY K mg er tps cat) (nd : N159.Nodup) : SSs ((Tx P w K mg base tb).gm k N159 nd lm) (L2.defScope (top 51)) Wx WF (L2.defBody (top 51)) c159 :=
  (sss_cons (ss_asg (sg_tp (sgs_cons (sg_nm rfl rfl) (sgs_cons (sg_nm rfl rfl) sgs_nil))) (se_tup (sa_cons (se_tup (sa_cons se_int (sa_cons se_int (sa_cons se_int sa_nil)))) (sa_cons (se_pow (se_int).bor (se_int).bor) sa_nil))))
  (sss_cons (ss_set rfl rfl ((se_lst (sa_cons (se_tup (sa_cons (se_tup (sa_cons se_int (sa_cons se_int sa_nil))) sa_nil)) (sa_cons (se_tup (sa_cons (se_tup (sa_cons se_int (sa_cons se_int sa_nil))) sa_nil)) (sa_cons (se_tup (sa_cons (se_tup (sa_cons se_int (sa_cons se_int sa_nil))) (sa_cons (se_tup (sa_cons se_int (sa_cons se_int sa_nil))) sa_nil))) (sa_cons (se_tup sa_nil) (sa_cons (se_tup (sa_cons (se_tup (sa_cons se_int (sa_cons se_int sa_nil))) sa_nil)) (sa_cons (se_tup (sa_cons (se_tup (sa_cons se_int (sa_cons se_int sa_nil))) (sa_cons (se_tup (sa_cons se_int (sa_cons se_int sa_nil))) sa_nil))) sa_nil)))))))).rep)
  (sss_cons (ss_setLc rfl rfl (own := [("facts_so", 4)]) (si_bor ((se_var rfl rfl)).bor) (sg_nm rfl rfl) sts_nil (se_call ⟨rfl, rfl⟩ rfl (sa_cons (se_var rfl rfl) (sa_cons (se_var rfl rfl) sa_nil))) (blk_by rfl) (slots_by rfl) rfl)
  (sss_cons (ss_if (st_k k_ne ((se_var rfl rfl)).bor ((se_lst (sa_cons (se_tup (sa_cons se_int (sa_cons se_int sa_nil))) (sa_cons (se_tup (sa_cons se_int (sa_cons (se_var rfl rfl) sa_nil))) (sa_cons (se_tup (sa_cons se_int (sa_cons se_int sa_nil))) (sa_cons (se_tup (sa_cons se_int (sa_cons (se_var rfl rfl) sa_nil))) (sa_cons se_non (sa_cons se_non sa_nil)))))))).bor)
  (sss_cons (ss_ret se_bl)
  sss_nil)
  sss_nil)
  (sss_cons (ss_if (sw_or (st_k k_ne ((se_call ⟨rfl, rfl⟩ rfl (sa_cons (se_var rfl rfl) (sa_cons (se_tup (sa_cons (se_tup (sa_cons se_int (sa_cons se_int sa_nil))) sa_nil)) sa_nil)))).bor ((se_tup (sa_cons se_int (sa_cons (se_var rfl rfl) sa_nil)))).bor) (sw_or1 (st_k k_ne ((se_call ⟨rfl, rfl⟩ rfl (sa_cons (se_var rfl rfl) (sa_cons (se_tup (sa_cons (se_tup (sa_cons se_int (sa_cons se_int sa_nil))) sa_nil)) sa_nil)))).bor ((se_tup (sa_cons se_int (sa_cons se_int sa_nil)))).bor))).st
  (sss_cons (ss_ret se_bl)
  sss_nil)
  sss_nil)
  (sss_cons (ss_if (st_k k_ne ((se_call ⟨rfl, rfl⟩ rfl (sa_cons (se_var rfl rfl) (sa_cons (se_tup (sa_cons (se_tup (sa_cons se_int (sa_cons se_int sa_nil))) (sa_cons (se_tup (sa_cons se_int (sa_cons se_int sa_nil))) sa_nil))) sa_nil)))).bor ((se_tup (sa_cons se_int (sa_cons se_int sa_nil)))).bor)
  (sss_cons (ss_ret se_bl)
  sss_nil)
  sss_nil)
  (sss_cons (ss_if (st_k k_ne ((se_call ⟨rfl, rfl⟩ rfl (sa_cons (se_var rfl rfl) (sa_cons (se_tup (sa_cons (se_tup (sa_cons (se_var rfl rfl) (sa_cons ((se_mul (se_int).bor ((se_var rfl rfl)).bor)).rep sa_nil))) sa_nil)) sa_nil)))).bor ((se_tup (sa_cons (se_fdiv ((se_var rfl rfl)).bor (se_int).bor) (sa_cons (se_var rfl rfl) sa_nil)))).bor)
  (sss_cons (ss_ret se_bl)
  sss_nil)
  sss_nil)
  (sss_cons (ss_if (st_k k_ne ((se_call ⟨rfl, rfl⟩ rfl (sa_cons (se_tup (sa_cons se_int (sa_cons se_int (sa_cons se_int sa_nil)))) (sa_cons (se_tup (sa_cons (se_tup (sa_cons se_int (sa_cons se_int sa_nil))) sa_nil)) sa_nil)))).bor ((se_tup (sa_cons se_int (sa_cons se_int sa_nil)))).bor)
  (sss_cons (ss_ret se_bl)
  sss_nil)
  sss_nil)
  (sss_cons (ss_ret (se_and (se_k k_eq ((se_call ⟨rfl, rfl⟩ rfl (sa_cons (se_var rfl rfl) (sa_cons ((se_mul ((se_tup (sa_cons (se_tup (sa_cons se_int (sa_cons se_int sa_nil))) sa_nil))).bor (se_int).bor)).rep sa_nil)))).bor ((se_tup (sa_cons se_int (sa_cons (se_var rfl rfl) sa_nil)))).bor) (se_one (se_k k_eq ((se_call ⟨rfl, rfl⟩ rfl (sa_cons (se_var rfl rfl) (sa_cons (se_tup (sa_cons (se_tup (sa_cons se_int (sa_cons se_int sa_nil))) (sa_cons (se_tup (sa_cons se_int (sa_cons se_int sa_nil))) sa_nil))) sa_nil)))).bor ((se_tup (sa_cons se_int (sa_cons se_int sa_nil)))).bor))))
  sss_nil)))))))))
def N160 : List PySem.Str := (["script", "k", "source", "plan_so", "most_so"] : List PySem.Str)
/-- law -/
theorem d160 (T : TF K mg bl fl cs er) (Y : TY K mg er tps cat) (nd : N160.Nodup) : SSs ((Tx P w K mg base tb).gm k N160 nd lm) (L2.defScope (top 52)) Wx WF (L2.defBody (top 52)) c160 :=
  (sss_cons (ss_for (si_range1 (b_range T rfl rfl) ((se_max2 (b_max T rfl rfl) (se_int).bor ((se_min2 (b_min T rfl rfl) (se_int).bor ((se_len (b_len T rfl rfl) ((se_var rfl rfl)).bor)).bor)).bor)).bor) (sg_nm rfl rfl)
  (sss_cons (ss_set rfl rfl (se_call ⟨rfl, rfl⟩ rfl (sa_cons (se_var rfl rfl) (sa_cons (se_var rfl rfl) sa_nil))))
  (sss_cons (ss_set rfl rfl (se_call ⟨rfl, rfl⟩ rfl (sa_cons (se_var rfl rfl) (sa_cons se_int sa_nil))))
  (sss_cons (ss_for (si_rep (se_tup (sa_cons se_int (sa_cons se_int (sa_cons (se_pow (se_int).bor (se_int).bor) sa_nil))))) (sg_nm rfl rfl)
  (sss_cons (ss_if (st_not (st_val (se_call ⟨rfl, rfl⟩ rfl (sa_cons (se_var rfl rfl) (sa_cons (se_var rfl rfl) (sa_cons (se_var rfl rfl) sa_nil))))))
  (sss_cons (ss_ret se_bl)
  sss_nil)
  sss_nil)
  sss_nil))
  sss_nil))))
  (sss_cons (ss_ret (se_and (se_call0 ⟨rfl, rfl⟩ rfl) (se_one (se_call0 ⟨rfl, rfl⟩ rfl))))
  sss_nil))
end
end K51

namespace K51
open Rf Cr
abbrev R : PySem.W.OpenRow := PySem.W.OpenLaw.row PySem.Challenge.rw_storesanew_k51_whole_sends_told_back
def exN : List PySem.Str := (["StoreError", "InvalidPlan", "InvalidHold", "InvalidSend", "InvalidFile", "InvalidLife", "InvalidReaders", "InvalidCode", "InvalidWords", "InvalidStore", "InvalidPart", "InvalidHelpers", "InvalidNumbers", "InvalidLot", "InvalidTable", "InvalidFacts", "InvalidNumber", "InvalidText", "Gone", "There"] : List PySem.Str) ++ (["Unlike", "NothingToUndo"] : List PySem.Str)
def e_is_int : He.DefD := Rf.defD "is_int" (top 28)
def e_is_right_plan : He.DefD := Rf.defD "is_right_plan" (top 29)
def e_greatest : He.DefD := Rf.defD "greatest" (top 30)
def e_need_plan : He.DefD := Rf.defD "need_plan" (top 31)
def e_are_facts : He.DefD := Rf.defD "are_facts" (top 34)
def e_first_above : He.DefD := Rf.defD "first_above" (top 35)
def e_send_told : He.DefD := Rf.defD "send_told" (top 36)
def e__law_source : He.DefD := Rf.defD "_law_source" (top 38)
def e__law_pick : He.DefD := Rf.defD "_law_pick" (top 39)
def e__law_chosen : He.DefD := Rf.defD "_law_chosen" (top 40)
def e__law_by_two : He.DefD := Rf.defD "_law_by_two" (top 41)
def e__law_plan : He.DefD := Rf.defD "_law_plan" (top 44)
def e__law_greatest : He.DefD := Rf.defD "_law_greatest" (top 45)
def e__law_amount : He.DefD := Rf.defD "_law_amount" (top 46)
def e__law_goes : He.DefD := Rf.defD "_law_goes" (top 47)
def e__law_facts : He.DefD := Rf.defD "_law_facts" (top 48)
def e__law_right : He.DefD := Rf.defD "_law_right" (top 49)
def e__law_refusals : He.DefD := Rf.defD "_law_refusals" (top 50)
def e__law_written : He.DefD := Rf.defD "_law_written" (top 51)
def e_law : He.DefD := Rf.defD "law" (top 52)
def e__law_refused : He.DefD := Rf.defD "_law_refused" (top 42)
def e__law_error : He.DefD := Rf.defD "_law_error" (top 43)
def fn : List He.DefD := [e_is_int, e_is_right_plan, e_greatest, e_need_plan, e_are_facts, e_first_above, e_send_told, e__law_source, e__law_pick, e__law_chosen, e__law_by_two, e__law_plan, e__law_greatest, e__law_amount, e__law_goes, e__law_facts, e__law_right, e__law_refusals, e__law_written, e_law, e__law_refused, e__law_error]
def fa : List He.Fa := Rf.faOf fl bl cs exN
def tf : List He.Defn := [("_law_by_two", none)]
def exB (K : PySem.W.Frag) : Bool := (tps.all (Rf.tupB K) && (cat.all (Rf.catB K))) && (Rf.errB K && decide ((tf.map fun p => (He.cT K p).2).Nodup))
abbrev hk : PySem.W.Hook := He.hookX 4 fa fn [] tf exB
def ob (s : PySem.W.SharedT) : He.AlX := He.obsX 4 fa fn [] tf exB (HandSHeadRun.getT s)
theorem ob_eq (s : PySem.W.SharedT) : ob s = hk.obs s.abs := He.obsX_eq (HandSHeadRun.getT_eq s)
def loose : List PySem.Str := (["StoreError", "InvalidPlan", "InvalidHold", "InvalidSend", "InvalidFile", "InvalidLife", "InvalidReaders", "InvalidCode", "InvalidWords", "InvalidStore", "InvalidPart", "InvalidHelpers", "InvalidNumbers", "InvalidLot", "InvalidTable", "InvalidFacts", "InvalidNumber", "InvalidText", "Gone", "There"] : List PySem.Str) ++ (["Unlike", "NothingToUndo", "TooMany", "MOST_STORES", "MOST_AMOUNT", "MOST_FILE", "is_int", "is_right_plan", "greatest", "need_plan", "MOST_FACTS", "are_facts", "first_above", "send_told", "_law_source", "_law_pick", "_law_chosen", "_law_by_two", "_law_refused", "_law_error"] : List PySem.Str) ++ (["_law_plan", "_law_greatest", "_law_amount", "_law_goes", "_law_facts", "_law_right", "_law_refusals", "_law_written"] : List PySem.Str)
theorem hrun (w : PySem.World) : HandSHeadRun.RunEq R (PySem.W.view R.prog [52]) hk ob 6000 loose w := by
  intro os
  kernel_rfl
end K51

/-! RLaw2: the lambdas' tables, a def's code object. -/
namespace Rf
open PySem (Str Addr Value Pos Expr Stmt Scope Program World Heap Shared CmpOp Operator UnaryOp Obj FuncData Arguments Around Env)
open L2 (V Hp HO SqL SqT)
/-- the tables of the defs that hold lambdas -/
def tbsOf (tf : List He.Defn) (K : PySem.W.Frag) : List (Addr × Str) := tf.map fun p => ((He.cT K p).2, (p.1 ++ ".<locals>.") ++ "<lambda>")
def csOf (tf : List He.Defn) (K : PySem.W.Frag) : List (Addr × Addr) := tf.map (He.cT K)
theorem nodup_inj {α β : Type} {f : α → β} : ∀ {l : List α}, (l.map f).Nodup → ∀ {a b : α}, a ∈ l → b ∈ l → f a = f b → a = b
  | x :: xs, h, a, b, ha, hb, e => by
    rw [List.map_cons, List.nodup_cons] at h
    rcases List.mem_cons.mp ha with q | q <;> rcases List.mem_cons.mp hb with q2 | q2
    · rw [q, q2]
    · subst q
      exact absurd (List.mem_map.mpr ⟨b, q2, e.symm⟩) h.1
    · subst q2
      exact absurd (List.mem_map.mpr ⟨a, q, e⟩) h.1
    · exact nodup_inj h.2 q q2 e
theorem lamAt_of {tf : List He.Defn} {K : PySem.W.Frag} {g : Gm} {x : Str} (hx : (x, none) ∈ tf) (nd : (tf.map fun p => (He.cT K p).2).Nodup) (htb : g.tb = tbsOf tf K) (hlm : g.lm = some (He.codeOf K (x, none), x ++ ".<locals>."))
    (TB : ∀ p ∈ csOf tf K, LamX.TabB g.base g.mg p.1 p.2) : LamAt g (x ++ ".<locals>.") := by
  refine ⟨He.codeOf K (x, none), (He.cT K (x, none)).2, hlm, TB _ (List.mem_map.mpr ⟨(x, none), hx, rfl⟩), ?_, fun p hp e => ?_⟩
  · rw [htb]
    exact List.mem_map.mpr ⟨(x, none), hx, rfl⟩
  · rw [htb] at hp
    obtain ⟨d, hd, rfl⟩ := List.mem_map.mp hp
    have e2 := nodup_inj nd hd hx e
    rw [e2]
theorem code_at {K : PySem.W.Frag} {x : Str} {params : Arguments} {body : List Stmt} {scope : Scope} {fd : FuncData} (F : L2.FunD K x x params body scope [] [] (He.fAd K (x, none)) fd) : fd.code = .ref (He.codeOf K (x, none)) := by
  obtain ⟨oc, od, dV, kV, doc, pm, an, cdv, ct, osl, rfl, lk, hcd, _, _⟩ := F.ex
  obtain ⟨c, hc⟩ := He.codeIn_ref hcd
  rw [He.codeOf_eq lk (c := c) hc]
  exact hc
theorem tabs_of {tf : List He.Defn} {K : PySem.W.Frag} {H : Hp} (h : ∀ p ∈ csOf tf K, H p.2 = some (.tbl #[])) : LamX.Tabs (tbsOf tf K) H := by
  intro p hp
  obtain ⟨d, hd, rfl⟩ := List.mem_map.mp hp
  exact ⟨#[], h _ (List.mem_map.mpr ⟨d, hd, rfl⟩), trivial, fun pos cv hc => by cases hc⟩
end Rf

namespace K51
open Rf Cr
theorem her : ∀ n x, er n = some x → x ∈ exN := by
  intro n x h
  unfold er at h
  split at h <;> first | (cases h; decide +kernel) | cases h
theorem her2 : ∀ n x, er n = some x → 1 ≤ n ∧ n ≤ 21 ∧ ∃ w, (n, x, w) ∈ Rf.erTab := by
  intro n x h
  unfold er at h
  split at h
  · cases h
    exact ⟨by decide, by decide, "plan", by decide +kernel⟩
  · cases h
    exact ⟨by decide, by decide, "hold", by decide +kernel⟩
  · cases h
    exact ⟨by decide, by decide, "send", by decide +kernel⟩
  · cases h
    exact ⟨by decide, by decide, "file", by decide +kernel⟩
  · cases h
    exact ⟨by decide, by decide, "life", by decide +kernel⟩
  · cases h
    exact ⟨by decide, by decide, "readers", by decide +kernel⟩
  · cases h
    exact ⟨by decide, by decide, "code", by decide +kernel⟩
  · cases h
    exact ⟨by decide, by decide, "words", by decide +kernel⟩
  · cases h
    exact ⟨by decide, by decide, "store", by decide +kernel⟩
  · cases h
    exact ⟨by decide, by decide, "part", by decide +kernel⟩
  · cases h
    exact ⟨by decide, by decide, "helpers", by decide +kernel⟩
  · cases h
    exact ⟨by decide, by decide, "numbers", by decide +kernel⟩
  · cases h
    exact ⟨by decide, by decide, "lot", by decide +kernel⟩
  · cases h
    exact ⟨by decide, by decide, "table", by decide +kernel⟩
  · cases h
    exact ⟨by decide, by decide, "facts", by decide +kernel⟩
  · cases h
    exact ⟨by decide, by decide, "number", by decide +kernel⟩
  · cases h
    exact ⟨by decide, by decide, "text", by decide +kernel⟩
  · cases h
    exact ⟨by decide, by decide, "gone", by decide +kernel⟩
  · cases h
    exact ⟨by decide, by decide, "there", by decide +kernel⟩
  · cases h
    exact ⟨by decide, by decide, "unlike", by decide +kernel⟩
  · cases h
    exact ⟨by decide, by decide, "undo", by decide +kernel⟩
  · cases h
theorem err_body {K : PySem.W.Frag} {mg : PySem.Str → Option PySem.Value} {ad : Nat → PySem.Addr} {SEa : PySem.Addr} (F : Rf.ErF K mg er ad SEa) : Rf.ErrBody K mg ad (["e", "some", "word_so", "good"] : List PySem.Str) (L2.defScope (top 43)) (L2.defBody (top 43)) := by
  intro Y p n c hn hK hmg hsc nd
  subst hK hmg
  have gl : ∀ x, (L2.defScope (top 43)).names.lookup x = some .globalImplicit → L2.Gl Y x := fun x h => by
    show Y.env.scope.names.lookup x = _
    rw [hsc]
    exact h
  refine ⟨_, 
    (L2.pss_cons (s_first c nd (e_two (e_pr c F hn 1 (by decide +kernel) (by decide) (gl _ rfl)) (e_pr c F hn 2 (by decide +kernel) (by decide) (gl _ rfl)) rfl rfl) rfl)
    (L2.pss_cons (s_more c nd (e_two (e_pr c F hn 3 (by decide +kernel) (by decide) (gl _ rfl)) (e_pr c F hn 4 (by decide +kernel) (by decide) (gl _ rfl)) rfl rfl))
    (L2.pss_cons (s_more c nd (e_two (e_pr c F hn 5 (by decide +kernel) (by decide) (gl _ rfl)) (e_pr c F hn 6 (by decide +kernel) (by decide) (gl _ rfl)) rfl rfl))
    (L2.pss_cons (s_more c nd (e_two (e_pr c F hn 7 (by decide +kernel) (by decide) (gl _ rfl)) (e_pr c F hn 8 (by decide +kernel) (by decide) (gl _ rfl)) rfl rfl))
    (L2.pss_cons (s_more c nd (e_two (e_pr c F hn 9 (by decide +kernel) (by decide) (gl _ rfl)) (e_pr c F hn 10 (by decide +kernel) (by decide) (gl _ rfl)) rfl rfl))
    (L2.pss_cons (s_more c nd (e_two (e_pr c F hn 11 (by decide +kernel) (by decide) (gl _ rfl)) (e_pr c F hn 12 (by decide +kernel) (by decide) (gl _ rfl)) rfl rfl))
    (L2.pss_cons (s_more c nd (e_two (e_pr c F hn 13 (by decide +kernel) (by decide) (gl _ rfl)) (e_pr c F hn 14 (by decide +kernel) (by decide) (gl _ rfl)) rfl rfl))
    (L2.pss_cons (s_more c nd (e_two (e_pr c F hn 15 (by decide +kernel) (by decide) (gl _ rfl)) (e_pr c F hn 16 (by decide +kernel) (by decide) (gl _ rfl)) rfl rfl))
    (L2.pss_cons (s_more c nd (e_two (e_pr c F hn 17 (by decide +kernel) (by decide) (gl _ rfl)) (e_pr c F hn 18 (by decide +kernel) (by decide) (gl _ rfl)) rfl rfl))
    (L2.pss_cons (s_more c nd (e_two (e_pr c F hn 19 (by decide +kernel) (by decide) (gl _ rfl)) (e_pr c F hn 20 (by decide +kernel) (by decide) (gl _ rfl)) rfl rfl))
    (L2.pss_cons (s_more c nd (e_two (e_pr c F hn 21 (by decide +kernel) (by decide) (gl _ rfl)) (e_pr c F hn 22 (by decide +kernel) (by decide) (gl _ rfl)) rfl rfl))
    (L2.pss_one (s_last c (q9 := ⟨0, 0, 0, 0⟩) (q10 := ⟨0, 0, 0, 0⟩) nd (by rw [c.N, hsc]; exact blk_by rfl) (by rw [hsc] <;> rfl) rfl rfl rfl))))))))))))), fun Q H h => ?_⟩
  refine go_first rfl rfl fun σ0 H0 s0 => ?_
  refine go_more s0 (Nat.le_of_ble_eq_true rfl) fun σ1 H1 s1 => ?_
  refine go_more s1 (Nat.le_of_ble_eq_true rfl) fun σ2 H2 s2 => ?_
  refine go_more s2 (Nat.le_of_ble_eq_true rfl) fun σ3 H3 s3 => ?_
  refine go_more s3 (Nat.le_of_ble_eq_true rfl) fun σ4 H4 s4 => ?_
  refine go_more s4 (Nat.le_of_ble_eq_true rfl) fun σ5 H5 s5 => ?_
  refine go_more s5 (Nat.le_of_ble_eq_true rfl) fun σ6 H6 s6 => ?_
  refine go_more s6 (Nat.le_of_ble_eq_true rfl) fun σ7 H7 s7 => ?_
  refine go_more s7 (Nat.le_of_ble_eq_true rfl) fun σ8 H8 s8 => ?_
  refine go_more s8 (Nat.le_of_ble_eq_true rfl) fun σ9 H9 s9 => ?_
  refine go_more s9 (Nat.le_of_ble_eq_true rfl) fun σ10 H10 s10 => ?_
  obtain ⟨k1, k2⟩ := words_ok n (by omega) hn.1
  exact go_last s10 (Nat.le_of_ble_eq_true rfl) (by decide) k1 k2 h
end K51

namespace K51
open Rf Cr
abbrev PP : PySem.Program := PySem.Challenge.rw_storesanew_k51_whole_sends_told_back.prog
structure Cx (w : PySem.World) (h : PySem.Heap) (K : PySem.W.Frag) (mg : PySem.Str → Option PySem.Value) (base : PySem.Heap) : Prop where
  X : K.In h
  G : h.Ns PySem.mainGlobals mg
  c : He.SaysX fa fn [] tf exB w h K
  TB : ∀ p ∈ Rf.csOf tf K, LamX.TabB base mg p.1 p.2
section
variable {w : PySem.World} {h : PySem.Heap} {K : PySem.W.Frag} {mg : PySem.Str → Option PySem.Value} {base : PySem.Heap}
abbrev TX (w : PySem.World) (K : PySem.W.Frag) (mg : PySem.Str → Option PySem.Value) (base : PySem.Heap) : Rf.Txt := Tx PP w K mg base (Rf.tbsOf tf K)
theorem Cx.tF (C : Cx w h K mg base) : TF K mg bl fl cs er := tf_of C.c.t.d C.X C.G her
theorem Cx.glo (C : Cx w h K mg base) {x : PySem.Str} (hx : x ∈ fl) : mg x = some (.ref (He.ga K x)) := glo_fl C.c.t.d C.X C.G hx
theorem Cx.nd (C : Cx w h K mg base) : (tf.map fun p => (He.cT K p).2).Nodup := of_decide_eq_true (Bool.and_eq_true_iff.mp (Bool.and_eq_true_iff.mp C.c.more).2).2
theorem exfl : ∀ t ∈ Rf.erTab, t.2.1 ∈ exN ∨ t.2.1 ∈ fl := by decide +kernel
theorem Cx.eF (C : Cx w h K mg base) : Rf.ErF K mg er (Rf.adOf K) (He.ga K "StoreError") :=
  erF_of (glo_ex C.c.t.d C.X C.G (by decide +kernel)) (fun t ht => (exfl t ht).elim (glo_ex C.c.t.d C.X C.G) C.glo) (Bool.and_eq_true_iff.mp (Bool.and_eq_true_iff.mp C.c.more).2).1 her2
theorem Cx.lam (C : Cx w h K mg base) (k : Nat) (N : List PySem.Str) (nd : N.Nodup) (lm : Option (PySem.Addr × PySem.Str)) : Rf.LamOk ((TX w K mg base).gm k N nd lm) "_law_refused" := by
  obtain ⟨fdR, FR⟩ := C.c.t.d.def_ 20 (d := e__law_refused) rfl
  obtain ⟨fdE, FE⟩ := C.c.t.d.def_ 21 (d := e__law_error) rfl
  exact lam_ok C.eF (fun n x h => h) FR (C.glo (by decide +kernel)) FE (C.glo (by decide +kernel)) (C8.fnScope_by rfl) (C8.fnScope_by rfl) (FR.bindsN fun _ _ _ _ _ _ us hl => match us, hl with | [_], _ => rfl) (FE.bindsN fun _ _ _ _ _ _ us hl => match us, hl with | [_], _ => rfl)
    rfl rfl rfl rfl rfl rfl rfl rfl (free_bl C.c.t.d C.X C.G (by decide +kernel)) (err_body C.eF)
theorem Cx.tY (C : Cx w h K mg base) : TY K mg er tps cat :=
  tY_of (fun q hq => C.glo (List.all_eq_true.mp (show tps.all (fun q => decide (q.1 ∈ fl)) = true by decide +kernel) q hq |> of_decide_eq_true)) (fun q hq => glo_ex C.c.t.d C.X C.G (List.all_eq_true.mp (show cat.all (fun q => decide (q.2 ∈ exN)) = true by decide +kernel) q hq |> of_decide_eq_true))
    (Bool.and_eq_true_iff.mp (Bool.and_eq_true_iff.mp C.c.more).1).1 (by decide +kernel) (Bool.and_eq_true_iff.mp (Bool.and_eq_true_iff.mp C.c.more).1).2 her2 (fun t ht => (exfl t ht).elim (glo_ex C.c.t.d C.X C.G) C.glo)
theorem n0 : N0.Nodup := by decide +kernel
theorem k0 (C : Cx w h K mg base) : Rf.DefOk (TX w K mg base) 0 "is_int" := by
  obtain ⟨fd, F⟩ := C.c.t.d.def_ 0 (d := e_is_int) rfl
  exact ⟨_, fd, N0, (["value", "low", "high"] : List PySem.Str), n0, _, _, _, _, none, C.glo (by decide +kernel), F, C8.fnScope_by rfl, (F.bindsN fun _ _ _ _ _ _ us hl => match us, hl with | [_, _, _], _ => rfl), rfl, rfl, rfl, (fun c q e => nomatch e), fun k hk Wx => d0 C.tF C.tY n0⟩
theorem n1 : N1.Nodup := by decide +kernel
theorem k1 (C : Cx w h K mg base) : Rf.DefOk (TX w K mg base) 1 "is_right_plan" := by
  obtain ⟨fd, F⟩ := C.c.t.d.def_ 1 (d := e_is_right_plan) rfl
  exact ⟨_, fd, N1, (["value"] : List PySem.Str), n1, _, _, _, _, none, C.glo (by decide +kernel), F, C8.fnScope_by rfl, (F.bindsN fun _ _ _ _ _ _ us hl => match us, hl with | [_], _ => rfl), rfl, rfl, rfl, (fun c q e => nomatch e), fun k hk Wx => d1 C.tF C.tY n1⟩
theorem n2 : N2.Nodup := by decide +kernel
theorem k2 (C : Cx w h K mg base) : Rf.DefOk (TX w K mg base) 2 "greatest" := by
  obtain ⟨fd, F⟩ := C.c.t.d.def_ 2 (d := e_greatest) rfl
  exact ⟨_, fd, N2, (["plan", "hold", "send"] : List PySem.Str), n2, _, _, _, _, none, C.glo (by decide +kernel), F, C8.fnScope_by rfl, (F.bindsN fun _ _ _ _ _ _ us hl => match us, hl with | [_, _, _], _ => rfl), rfl, rfl, rfl, (fun c q e => nomatch e), fun k hk Wx => d2 C.tF C.tY n2⟩
theorem n6 : N6.Nodup := by decide +kernel
theorem k6 (C : Cx w h K mg base) : Rf.DefOk (TX w K mg base) 6 "need_plan" := by
  obtain ⟨fd, F⟩ := C.c.t.d.def_ 3 (d := e_need_plan) rfl
  exact ⟨_, fd, N6, (["value"] : List PySem.Str), n6, _, _, _, _, none, C.glo (by decide +kernel), F, C8.fnScope_by rfl, (F.bindsN fun _ _ _ _ _ _ us hl => match us, hl with | [_], _ => rfl), rfl, rfl, rfl, (fun c q e => nomatch e), fun k hk Wx => d6 C.tF C.tY n6⟩
theorem n152 : N152.Nodup := by decide +kernel
theorem k152 (C : Cx w h K mg base) : Rf.DefOk (TX w K mg base) 152 "are_facts" := by
  obtain ⟨fd, F⟩ := C.c.t.d.def_ 4 (d := e_are_facts) rfl
  exact ⟨_, fd, N152, (["value"] : List PySem.Str), n152, _, _, _, _, none, C.glo (by decide +kernel), F, C8.fnScope_by rfl, (F.bindsN fun _ _ _ _ _ _ us hl => match us, hl with | [_], _ => rfl), rfl, rfl, rfl, (fun c q e => nomatch e), fun k hk Wx => d152 C.tF C.tY n152⟩
theorem n153 : N153.Nodup := by decide +kernel
theorem k153 (C : Cx w h K mg base) : Rf.DefOk (TX w K mg base) 153 "first_above" := by
  obtain ⟨fd, F⟩ := C.c.t.d.def_ 5 (d := e_first_above) rfl
  exact ⟨_, fd, N153, (["plan", "hold", "file"] : List PySem.Str), n153, _, _, _, _, none, C.glo (by decide +kernel), F, C8.fnScope_by rfl, (F.bindsN fun _ _ _ _ _ _ us hl => match us, hl with | [_, _, _], _ => rfl), rfl, rfl, rfl, (fun c q e => nomatch e), fun k hk Wx => d153 C.tF C.tY n153⟩
theorem n154 : N154.Nodup := by decide +kernel
theorem k154 (C : Cx w h K mg base) : Rf.DefOk (TX w K mg base) 154 "send_told" := by
  obtain ⟨fd, F⟩ := C.c.t.d.def_ 6 (d := e_send_told) rfl
  exact ⟨_, fd, N154, (["plan", "facts"] : List PySem.Str), n154, _, _, _, _, none, C.glo (by decide +kernel), F, C8.fnScope_by rfl, (F.bindsN fun _ _ _ _ _ _ us hl => match us, hl with | [_, _], _ => rfl), rfl, rfl, rfl, (fun c q e => nomatch e), fun k hk Wx => d154 C.tF C.tY n154⟩
theorem n15 : N15.Nodup := by decide +kernel
theorem k15 (C : Cx w h K mg base) : Rf.DefOk (TX w K mg base) 15 "_law_source" := by
  obtain ⟨fd, F⟩ := C.c.t.d.def_ 7 (d := e__law_source) rfl
  exact ⟨_, fd, N15, (["script", "k"] : List PySem.Str), n15, _, _, _, _, none, C.glo (by decide +kernel), F, C8.fnScope_by rfl, (F.bindsN fun _ _ _ _ _ _ us hl => match us, hl with | [_, _], _ => rfl), rfl, rfl, rfl, (fun c q e => nomatch e), fun k hk Wx => d15 C.tF C.tY n15⟩
theorem n16 : N16.Nodup := by decide +kernel
theorem k16 (C : Cx w h K mg base) : Rf.DefOk (TX w K mg base) 16 "_law_pick" := by
  obtain ⟨fd, F⟩ := C.c.t.d.def_ 8 (d := e__law_pick) rfl
  exact ⟨_, fd, N16, (["source", "many"] : List PySem.Str), n16, _, _, _, _, none, C.glo (by decide +kernel), F, C8.fnScope_by rfl, (F.bindsN fun _ _ _ _ _ _ us hl => match us, hl with | [_, _], _ => rfl), rfl, rfl, rfl, (fun c q e => nomatch e), fun k hk Wx => d16 C.tF C.tY n16⟩
theorem n17 : N17.Nodup := by decide +kernel
theorem k17 (C : Cx w h K mg base) : Rf.DefOk (TX w K mg base) 17 "_law_chosen" := by
  obtain ⟨fd, F⟩ := C.c.t.d.def_ 9 (d := e__law_chosen) rfl
  exact ⟨_, fd, N17, (["source", "things"] : List PySem.Str), n17, _, _, _, _, none, C.glo (by decide +kernel), F, C8.fnScope_by rfl, (F.bindsN fun _ _ _ _ _ _ us hl => match us, hl with | [_, _], _ => rfl), rfl, rfl, rfl, (fun c q e => nomatch e), fun k hk Wx => d17 C.tF C.tY n17⟩
theorem n47 : N47.Nodup := by decide +kernel
theorem k47 (C : Cx w h K mg base) : Rf.DefOk (TX w K mg base) 47 "_law_by_two" := by
  obtain ⟨fd, F⟩ := C.c.t.d.def_ 10 (d := e__law_by_two) rfl
  exact ⟨_, fd, N47, (["call", "one", "other"] : List PySem.Str), n47, _, _, _, _, some (He.codeOf K ("_law_by_two", none), "_law_by_two" ++ ".<locals>."), C.glo (by decide +kernel), F, C8.fnScope_by rfl, (F.bindsN fun _ _ _ _ _ _ us hl => match us, hl with | [_, _, _], _ => rfl), rfl, rfl, rfl, (fun c q e => by cases e; exact ⟨code_at F, rfl⟩), fun k hk Wx => d47 C.tF C.tY n47 (C.lam _ _ _ _) (lamAt_of (by decide +kernel) C.nd rfl rfl C.TB)⟩
theorem n26 : N26.Nodup := by decide +kernel
theorem k26 (C : Cx w h K mg base) : Rf.DefOk (TX w K mg base) 26 "_law_plan" := by
  obtain ⟨fd, F⟩ := C.c.t.d.def_ 11 (d := e__law_plan) rfl
  exact ⟨_, fd, N26, (["source", "most_so"] : List PySem.Str), n26, _, _, _, _, none, C.glo (by decide +kernel), F, C8.fnScope_by rfl, (F.bindsN fun _ _ _ _ _ _ us hl => match us, hl with | [_, _], _ => rfl), rfl, rfl, rfl, (fun c q e => nomatch e), fun k hk Wx => d26 C.tF C.tY n26⟩
theorem n27 : N27.Nodup := by decide +kernel
theorem k27 (C : Cx w h K mg base) : Rf.DefOk (TX w K mg base) 27 "_law_greatest" := by
  obtain ⟨fd, F⟩ := C.c.t.d.def_ 12 (d := e__law_greatest) rfl
  exact ⟨_, fd, N27, (["plan_so", "hold", "send"] : List PySem.Str), n27, _, _, _, _, none, C.glo (by decide +kernel), F, C8.fnScope_by rfl, (F.bindsN fun _ _ _ _ _ _ us hl => match us, hl with | [_, _, _], _ => rfl), rfl, rfl, rfl, (fun c q e => nomatch e), fun k hk Wx => d27 C.tF C.tY n27⟩
theorem n28 : N28.Nodup := by decide +kernel
theorem k28 (C : Cx w h K mg base) : Rf.DefOk (TX w K mg base) 28 "_law_amount" := by
  obtain ⟨fd, F⟩ := C.c.t.d.def_ 13 (d := e__law_amount) rfl
  exact ⟨_, fd, N28, (["source", "most_so"] : List PySem.Str), n28, _, _, _, _, none, C.glo (by decide +kernel), F, C8.fnScope_by rfl, (F.bindsN fun _ _ _ _ _ _ us hl => match us, hl with | [_, _], _ => rfl), rfl, rfl, rfl, (fun c q e => nomatch e), fun k hk Wx => d28 C.tF C.tY n28⟩
theorem n155 : N155.Nodup := by decide +kernel
theorem k155 (C : Cx w h K mg base) : Rf.DefOk (TX w K mg base) 155 "_law_goes" := by
  obtain ⟨fd, F⟩ := C.c.t.d.def_ 14 (d := e__law_goes) rfl
  exact ⟨_, fd, N155, (["plan_so", "facts_so", "send"] : List PySem.Str), n155, _, _, _, _, none, C.glo (by decide +kernel), F, C8.fnScope_by rfl, (F.bindsN fun _ _ _ _ _ _ us hl => match us, hl with | [_, _, _], _ => rfl), rfl, rfl, rfl, (fun c q e => nomatch e), fun k hk Wx => d155 C.tF C.tY n155⟩
theorem n156 : N156.Nodup := by decide +kernel
theorem k156 (C : Cx w h K mg base) : Rf.DefOk (TX w K mg base) 156 "_law_facts" := by
  obtain ⟨fd, F⟩ := C.c.t.d.def_ 15 (d := e__law_facts) rfl
  exact ⟨_, fd, N156, (["source", "plan_so", "most_so", "send"] : List PySem.Str), n156, _, _, _, _, none, C.glo (by decide +kernel), F, C8.fnScope_by rfl, (F.bindsN fun _ _ _ _ _ _ us hl => match us, hl with | [_, _, _, _], _ => rfl), rfl, rfl, rfl, (fun c q e => nomatch e), fun k hk Wx => d156 C.tF C.tY n156⟩
theorem n157 : N157.Nodup := by decide +kernel
theorem k157 (C : Cx w h K mg base) : Rf.DefOk (TX w K mg base) 157 "_law_right" := by
  obtain ⟨fd, F⟩ := C.c.t.d.def_ 16 (d := e__law_right) rfl
  exact ⟨_, fd, N157, (["source", "plan_so", "most_so"] : List PySem.Str), n157, _, _, _, _, none, C.glo (by decide +kernel), F, C8.fnScope_by rfl, (F.bindsN fun _ _ _ _ _ _ us hl => match us, hl with | [_, _, _], _ => rfl), rfl, rfl, rfl, (fun c q e => nomatch e), fun k hk Wx => d157 C.tF C.tY n157⟩
theorem n158 : N158.Nodup := by decide +kernel
theorem k158 (C : Cx w h K mg base) : Rf.DefOk (TX w K mg base) 158 "_law_refusals" := by
  obtain ⟨fd, F⟩ := C.c.t.d.def_ 17 (d := e__law_refusals) rfl
  exact ⟨_, fd, N158, ([] : List PySem.Str), n158, _, _, _, _, none, C.glo (by decide +kernel), F, C8.fnScope_by rfl, (F.bindsN fun _ _ _ _ _ _ us hl => match us, hl with | [], _ => rfl), rfl, rfl, rfl, (fun c q e => nomatch e), fun k hk Wx => d158 C.tF C.tY n158⟩
theorem n159 : N159.Nodup := by decide +kernel
theorem k159 (C : Cx w h K mg base) : Rf.DefOk (TX w K mg base) 159 "_law_written" := by
  obtain ⟨fd, F⟩ := C.c.t.d.def_ 18 (d := e__law_written) rfl
  exact ⟨_, fd, N159, ([] : List PySem.Str), n159, _, _, _, _, none, C.glo (by decide +kernel), F, C8.fnScope_by rfl, (F.bindsN fun _ _ _ _ _ _ us hl => match us, hl with | [], _ => rfl), rfl, rfl, rfl, (fun c q e => nomatch e), fun k hk Wx => d159 C.tF C.tY n159⟩
theorem n160 : N160.Nodup := by decide +kernel
theorem k160 (C : Cx w h K mg base) : Rf.DefOk (TX w K mg base) 160 "law" := by
  obtain ⟨fd, F⟩ := C.c.t.d.def_ 19 (d := e_law) rfl
  exact ⟨_, fd, N160, (["script"] : List PySem.Str), n160, _, _, _, _, none, C.glo (by decide +kernel), F, C8.fnScope_by rfl, (F.bindsN fun _ _ _ _ _ _ us hl => match us, hl with | [_], _ => rfl), rfl, rfl, rfl, (fun c q e => nomatch e), fun k hk Wx => d160 C.tF C.tY n160⟩
end
end K51

namespace K51
open Rf Cr
theorem defs {w : PySem.World} {h : PySem.Heap} {K : PySem.W.Frag} {mg : PySem.Str → Option PySem.Value} {base : PySem.Heap} (C : Cx w h K mg base) : ∀ n x, (TX w K mg base).ids n = true → (TX w K mg base).nm.fn n = some x → Rf.DefOk (TX w K mg base) n x := by
  intro n x h1 h2
  replace h2 : fnn n = some x := h2
  unfold fnn at h2
  split at h2
  · cases h2
    exact k0 C
  · cases h2
    exact k1 C
  · cases h2
    exact k2 C
  · cases h2
    exact k6 C
  · cases h2
    exact k152 C
  · cases h2
    exact k153 C
  · cases h2
    exact k154 C
  · cases h2
    exact k15 C
  · cases h2
    exact k16 C
  · cases h2
    exact k17 C
  · cases h2
    exact k47 C
  · cases h2
    exact k26 C
  · cases h2
    exact k27 C
  · cases h2
    exact k28 C
  · cases h2
    exact k155 C
  · cases h2
    exact k156 C
  · cases h2
    exact k157 C
  · cases h2
    exact k158 C
  · cases h2
    exact k159 C
  · cases h2
    exact k160 C
  · cases h2
/-- the law's mathematics -/
def Maths : Prop := ∀ ns : List Int, ns.length ≤ 63 → ∃ m, Rf.run WF pr 30 160 [.scr ns] [] = .ok (.bl true) m
theorem law_at (hm : Maths) {w : PySem.World} {h : PySem.Heap} {K : PySem.W.Frag} {mg : PySem.Str → Option PySem.Value} (X : K.In h) (G : h.Ns PySem.mainGlobals mg) (c : He.SaysX fa fn [] tf exB w h K) :
    LamX.LawAtS PySem.Challenge.rw_storesanew_k51_whole_sends_told_back w K (L2N.CX PP w) (3 * 30) 63 "script" mg (He.ga K "law") h := by
  obtain ⟨fd, F⟩ := c.t.d.def_ 19 (d := e_law) rfl
  refine ⟨fd, Rf.csOf tf K, Rf.spF (Rf.run WF pr 30) (TX w K mg h).G 160 1, fun p hp => ?_, fun p hp => ?_, fun p hp => ?_, fun s u => F.bindsA (ps := ["script"]) (fun _ _ _ _ _ _ us hl => match us, hl with | [_], _ => rfl) s [u] rfl, fun H a ns hl _ hT hS => law_sp (T := TX w K mg h) (tabs_of hT) hS (hm ns hl), fun base XB GB TB => ?_⟩
  · obtain ⟨d, hd, rfl⟩ := List.mem_map.mp hp
    exact c.empty d hd
  · obtain ⟨d, hd, rfl⟩ := List.mem_map.mp hp
    exact c.out d hd
  · obtain ⟨d, hd, rfl⟩ := List.mem_map.mp hp
    exact PySem.W.codeHd_of_K X (c.hd d hd)
  · have C : Cx w h K mg base := ⟨X, G, c, TB⟩
    exact def_fn (T := TX w K mg base) (k := 30 - 1) (lm' := none) F (C8.fnScope_by rfl : L2.FnScope N160 ["script"] _) (nd' := n160) rfl rfl rfl (fun c q e => nomatch e) (fun n x h1 h2 => calls_ok (defs C) _ n x h1 h2 _ _ _) (fun Wx => d160 C.tF C.tY n160)
end K51
section
open PySem PySem.W PySem.Calls PyProof.Rows
theorem K51.holds (hm : K51.Maths) : PySem.Challenge.rw_storesanew_k51_whole_sends_told_back.Holds := by
  w_on; o_law
  refine HandSHeadRun.head_any (r := OpenLaw.row PySem.Challenge.rw_storesanew_k51_whole_sends_told_back) (q := view (OpenLaw.row PySem.Challenge.rw_storesanew_k51_whole_sends_told_back).prog [52]) (H := K51.hk) (ob := K51.ob) (M := 6000) (loose := K51.loose) (d := HandSHeadRun.topDef (OpenLaw.row PySem.Challenge.rw_storesanew_k51_whole_sends_told_back).prog 52) (kwd := []) K51.ob_eq
    (by kernel_rfl) (fun s => by kernel_rfl) K51.hrun (by kernel_rfl) (by kernel_rfl) (by kernel_rfl) (by rfl) (by first | assumption | decide +kernel) (by decide +kernel) ⟨rfl, rfl, rfl, rfl, rfl, by decide +kernel⟩ ?hw ?hc
  case hw => w_witness2
  case hc =>
    refine LamX.walk_ofTsE (l := PySem.Challenge.rw_storesanew_k51_whole_sends_told_back) (n := 63) (k := 3 * 30) (x := "script") (CX := fun w => L2N.CX K51.PP w) rfl (by decide) (by kernel_rfl) ⟨rfl, by decide, by decide⟩ ?F ?cx
    case F =>
      intro w mg fa h Y G hmg0
      obtain ⟨K, X, c⟩ := Y
      have hmg : mg ("law" : PySem.Str) = some (.ref fa) := by
        have e : (HandSHeadRun.topDef (OpenLaw.row PySem.Challenge.rw_storesanew_k51_whole_sends_told_back).prog 52).name = ("law" : PySem.Str) := by kernel_rfl
        rw [← e]
        exact hmg0
      have e := hmg.symm.trans (Rf.glo_fl c.t.d X G (x := "law") (by decide +kernel))
      cases e
      exact ⟨K, X, K51.law_at hm X G c⟩
    case cx => exact fun w H s e s' ⟨_, _, _, _, _, _, _, _, _, _, _, _, z⟩ => z
end

theorem K51.whole : PySem.Challenge.rw_storesanew_k51_whole_sends_told_back.Holds := by
  exact K51.holds fun ns h => by
    have q := Rw.w160 h
    rw [Rw.run_def] at q
    exact q

open PySem PySem.W PyProof.Rows
theorem PySem.Challenge.cw_storesanew_k51_whole_sends_told_back_holds : PySem.Challenge.rw_storesanew_k51_whole_sends_told_back.Holds := by
  exact K51.whole
